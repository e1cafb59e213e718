import PyProof.Rows.All
import Wide.All
import OpenK.AllK
import Wide.FinOn
import HandS.ForMost
import HandS.TupAny
import HandS.IsInst
import HandS.WideBits
import HandS.Wide
import HandS.TupMul
import HandS.TupLe
import HandS.RaiseMore
import HandS.Rev
import HandS.RevRange
import HandS.RevTup
import HandS.MapJoin
import KE.GoesNew
import HandS.Strs
import HandS.HeadHook1
import HandS.Ends
import KE.OsArith
import KE.BitLaws
import PySem.Challenge.RW_switchstages_k03_whole_fields_read_and_w
set_option Elab.async false
set_option linter.all false
set_option maxRecDepth 100000
set_option maxHeartbeats 0
/-! MP: a small interpreter over plain data, and how its results stand to the heap of the hand layer. -/
namespace MP
open PySem L2

inductive D where
  | non
  | bl (b : Bool)
  | int (i : Int)
  | str (s : Str)
  | tup (l : List D)
  | ref (n : Nat)
  deriving Inhabited

inductive Cell where
  | lst (l : List D)
  | fro (l : List D)
  | dct
  deriving Inhabited

abbrev Sto := List Cell
abbrev En := List (Option D)

mutual
inductive VR (K : PySem.W.Frag) (H : Hp) (β : List Addr) : V → D → Prop where
  | non : VR K H β .non .non
  | bl (b : Bool) : VR K H β (.bl b) (.bl b)
  | int (i : Int) : VR K H β (.int i) (.int i)
  | str (s : Str) : VR K H β (.str s) (.str s)
  | tup {a : Addr} {xs : List V} {ds : List D} (h : SqT K H a xs) (r : VRs K H β xs ds) : VR K H β (.ref a) (.tup ds)
  | ref {a : Addr} {n : Nat} (h : β[n]? = some a) : VR K H β (.ref a) (.ref n)
inductive VRs (K : PySem.W.Frag) (H : Hp) (β : List Addr) : List V → List D → Prop where
  | nil : VRs K H β [] []
  | cons {x : V} {d : D} {xs : List V} {ds : List D} (h : VR K H β x d) (r : VRs K H β xs ds) : VRs K H β (x :: xs) (d :: ds)
end

/-- tuples stay -/
def Ext (K : PySem.W.Frag) (H H' : Hp) : Prop := ∀ a xs, SqT K H a xs → SqT K H' a xs
def Le (β β' : List Addr) : Prop := ∀ (n : Nat) (a : Addr), β[n]? = some a → β'[n]? = some a
theorem Ext.refl {K : PySem.W.Frag} (H : Hp) : Ext K H H := fun _ _ h => h
theorem Ext.trans {K : PySem.W.Frag} {H H1 H2 : Hp} (a : Ext K H H1) (b : Ext K H1 H2) : Ext K H H2 := fun c xs h => b c xs (a c xs h)
theorem Le.refl (β : List Addr) : Le β β := fun _ _ h => h
theorem Le.trans {β β1 β2 : List Addr} (a : Le β β1) (b : Le β1 β2) : Le β β2 := fun n x h => b n x (a n x h)
theorem Le.app {β t : List Addr} : Le β (β ++ t) := fun n a h => by
  rw [List.getElem?_append_left (List.getElem?_eq_some_iff.mp h).1]
  exact h

mutual
theorem VR.mono {K : PySem.W.Frag} {H H' : Hp} {β β' : List Addr} (e : Ext K H H') (l : Le β β') : ∀ {v : V} {d : D}, VR K H β v d → VR K H' β' v d
  | _, _, .non => .non
  | _, _, .bl b => .bl b
  | _, _, .int i => .int i
  | _, _, .str s => .str s
  | _, _, .tup h r => .tup (e _ _ h) (VRs.mono e l r)
  | _, _, .ref h => .ref (l _ _ h)
theorem VRs.mono {K : PySem.W.Frag} {H H' : Hp} {β β' : List Addr} (e : Ext K H H') (l : Le β β') : ∀ {vs : List V} {ds : List D}, VRs K H β vs ds → VRs K H' β' vs ds
  | _, _, .nil => .nil
  | _, _, .cons h r => .cons (VR.mono e l h) (VRs.mono e l r)
end
theorem VRs.length {K : PySem.W.Frag} {H : Hp} {β : List Addr} : ∀ {vs : List V} {ds : List D}, VRs K H β vs ds → vs.length = ds.length
  | _, _, .nil => rfl
  | _, _, .cons _ r => by simp [VRs.length r]
theorem VRs.get {K : PySem.W.Frag} {H : Hp} {β : List Addr} : ∀ {vs : List V} {ds : List D} (_ : VRs K H β vs ds) {i : Nat} {d : D}, ds[i]? = some d → ∃ v : V, vs[i]? = some v ∧ VR K H β v d
  | _, _, .nil, i, d, e => by simp at e
  | _, _, .cons h r, 0, d, e => by
    simp at e
    subst e
    exact ⟨_, rfl, h⟩
  | _, _, .cons h r, i + 1, d, e => by
    obtain ⟨v, h1, h2⟩ := VRs.get r (i := i) (d := d) (by simpa using e)
    exact ⟨v, by simpa using h1, h2⟩
theorem VRs.app {K : PySem.W.Frag} {H : Hp} {β : List Addr} : ∀ {vs : List V} {ds : List D} {ws : List V} {es : List D}, VRs K H β vs ds → VRs K H β ws es → VRs K H β (vs ++ ws) (ds ++ es)
  | _, _, _, _, .nil, s => s
  | _, _, _, _, .cons h r, s => .cons h (VRs.app r s)
theorem VRs.take {K : PySem.W.Frag} {H : Hp} {β : List Addr} : ∀ {vs : List V} {ds : List D} (n : Nat), VRs K H β vs ds → VRs K H β (vs.take n) (ds.take n)
  | _, _, 0, _ => .nil
  | _, _, _ + 1, .nil => .nil
  | _, _, n + 1, .cons h r => .cons h (VRs.take n r)
theorem VRs.drop {K : PySem.W.Frag} {H : Hp} {β : List Addr} : ∀ {vs : List V} {ds : List D} (n : Nat), VRs K H β vs ds → VRs K H β (vs.drop n) (ds.drop n)
  | _, _, 0, r => r
  | _, _, _ + 1, .nil => .nil
  | _, _, n + 1, .cons h r => VRs.drop n r
theorem VRs.set {K : PySem.W.Frag} {H : Hp} {β : List Addr} {v : V} {d : D} (q : VR K H β v d) : ∀ {vs : List V} {ds : List D} (n : Nat), VRs K H β vs ds → VRs K H β (vs.set n v) (ds.set n d)
  | _, _, _, .nil => .nil
  | _, _, 0, .cons h r => .cons q r
  | _, _, n + 1, .cons h r => .cons h (VRs.set q n r)

/-- a list that never changes: known to its object, or of the written part -/
def FrL (K : PySem.W.Frag) (H : Hp) (a : Addr) (xs : List V) : Prop :=
  (∃ o, H a = some (.frz o (.lst xs))) ∨ ∀ H', SqL K H' a xs
/-- one cell of the store, at its address -/
def CellAt (K : PySem.W.Frag) (H : Hp) (β : List Addr) (a : Addr) : Cell → Prop
  | .lst ds => ∃ xs : List V, H a = some (.lst xs) ∧ VRs K H β xs ds
  | .fro ds => ∃ xs : List V, FrL K H a xs ∧ VRs K H β xs ds
  | .dct => H a = some (.dK [])
def Cell.mut : Cell → Bool
  | .fro _ => false
  | _ => true
structure R (K : PySem.W.Frag) (β : List Addr) (H : Hp) (S : Sto) : Prop where
  len : β.length = S.length
  inj : ∀ (n m : Nat) (a : Addr) (c c' : Cell), β[n]? = some a → β[m]? = some a → S[n]? = some c → S[m]? = some c' → c.mut = true → c'.mut = true → n = m
  cell : ∀ (n : Nat) (a : Addr) (c : Cell), β[n]? = some a → S[n]? = some c → CellAt K H β a c
structure ER (K : PySem.W.Frag) (β : List Addr) (H : Hp) (σ : L2.St) (env : En) : Prop where
  len : σ.length = env.length
  at_ : ∀ (i : Nat) (d : D), env[i]? = some (some d) → ∃ v : V, σ[i]? = some (some v) ∧ VR K H β v d
theorem ER.mono {K : PySem.W.Frag} {H H' : Hp} {β β' : List Addr} {σ : L2.St} {env : En} (e : Ext K H H') (l : Le β β') (r : ER K β H σ env) : ER K β' H' σ env :=
  ⟨r.len, fun i d h => let ⟨v, a, b⟩ := r.at_ i d h; ⟨v, a, b.mono e l⟩⟩
theorem ER.set {K : PySem.W.Frag} {H : Hp} {β : List Addr} {σ : L2.St} {env : En} {v : V} {d : D} (r : ER K β H σ env) (i : Nat) (h : VR K H β v d) : ER K β H (σ.set i (some v)) (env.set i (some d)) := by
  refine ⟨by simp [r.len], fun j e q => ?_⟩
  by_cases hj : i = j
  · subst hj
    by_cases hl : i < env.length
    · rw [List.getElem?_set_self hl] at q
      cases q
      exact ⟨v, by rw [List.getElem?_set_self (by rw [r.len]; exact hl)], h⟩
    · rw [List.getElem?_eq_none (by simpa using hl)] at q
      cases q
  · rw [List.getElem?_set_ne hj] at q ⊢
    exact r.at_ j e q

/-- what is known behind a step: the places have grown, tuples stay, the store is held -/
abbrev FE := En → Sto → Option (D × Sto)
abbrev FA := En → Sto → Option (List D × Sto)
abbrev FB := En → Sto → Option (Bool × Sto)
def T (K : PySem.W.Frag) (f : FE) : TE := fun σ H Q => ∃ β env S d S', R K β H S ∧ ER K β H σ env ∧ f env S = some (d, S') ∧
  ∀ β' v H', Le β β' → Ext K H H' → R K β' H' S' → VR K H' β' v d → Q v H'
def TA' (K : PySem.W.Frag) (f : FA) : TA := fun σ H Q => ∃ β env S d S', R K β H S ∧ ER K β H σ env ∧ f env S = some (d, S') ∧
  ∀ β' v H', Le β β' → Ext K H H' → R K β' H' S' → VRs K H' β' v d → Q v H'
def TB (K : PySem.W.Frag) (f : FB) : TT := fun σ H Q => ∃ β env S b S', R K β H S ∧ ER K β H σ env ∧ f env S = some (b, S') ∧
  ∀ β' H', Le β β' → Ext K H H' → R K β' H' S' → Q b H'

theorem PE.to {X : Cx} {e : Expr} {t u : TE} (h : PE X e t) (w : ∀ σ H Q, u σ H Q → t σ H Q) : PE X e u := ⟨fun pins s σ H Q I q => h.run pins s σ H Q I (w _ _ _ q)⟩
theorem PT.to {X : Cx} {e : Expr} {t u : TT} (h : PT X e t) (w : ∀ σ H Q, u σ H Q → t σ H Q) : PT X e u := ⟨fun pins s σ H Q I q => h.run pins s σ H Q I (w _ _ _ q)⟩
theorem PW.to {X : Cx} {e : Expr} {t u : TT} (h : PW X e t) (w : ∀ σ H Q, u σ H Q → t σ H Q) : PW X e u := ⟨fun wh pins s σ H Q I q => h.run wh pins s σ H Q I (w _ _ _ q)⟩
theorem PA.to {X : Cx} {e : List Expr} {t u : TA} (h : PA X e t) (w : ∀ σ H Q, u σ H Q → t σ H Q) : PA X e u := ⟨fun p pins s σ H Q I q => h.run p pins s σ H Q I (w _ _ _ q)⟩
theorem PS.to {X : Cx} {e : Stmt} {t u : TS} (h : PS X e t) (w : ∀ D σ H, u D σ H → t D σ H) : PS X e u := ⟨fun pins s σ H D I q => h.run pins s σ H D I (w _ _ _ q)⟩
theorem PSs.to {X : Cx} {e : List Stmt} {t u : TS} (h : PSs X e t) (w : ∀ D σ H, u D σ H → t D σ H) : PSs X e u := ⟨fun pins s σ H D I q => h.run pins s σ H D I (w _ _ _ q)⟩

/-! ### readings of parts, as functions -/
def bindE (f : FE) (k : D → FE) : FE := fun env S => match f env S with
  | some (d, S1) => k d env S1
  | none => none
/-- a two-place operation on data -/
abbrev O2 := D → D → Sto → Option (D × Sto)
abbrev O1 := D → Sto → Option (D × Sto)
abbrev ON := List D → Sto → Option (D × Sto)
def RO (K : PySem.W.Frag) (g : O2) : R2 := fun x y H Q => ∃ β S d e r S', R K β H S ∧ VR K H β x d ∧ VR K H β y e ∧ g d e S = some (r, S') ∧
  ∀ β' v H', Le β β' → Ext K H H' → R K β' H' S' → VR K H' β' v r → Q v H'
def RO1 (K : PySem.W.Frag) (g : O1) : V → Hp → VK → Prop := fun x H Q => ∃ β S d r S', R K β H S ∧ VR K H β x d ∧ g d S = some (r, S') ∧
  ∀ β' v H', Le β β' → Ext K H H' → R K β' H' S' → VR K H' β' v r → Q v H'
def RON (K : PySem.W.Frag) (g : ON) : List V → Hp → VK → Prop := fun xs H Q => ∃ β S ds r S', R K β H S ∧ VRs K H β xs ds ∧ g ds S = some (r, S') ∧
  ∀ β' v H', Le β β' → Ext K H H' → R K β' H' S' → VR K H' β' v r → Q v H'
def f2 (g : O2) (fa fb : FE) : FE := fun env S => match fa env S with
  | some (d, S1) => match fb env S1 with
    | some (e, S2) => g d e S2
    | none => none
  | none => none
def f1 (g : O1) (fa : FE) : FE := fun env S => match fa env S with
  | some (d, S1) => g d S1
  | none => none
def fN (g : ON) (fa : FA) : FE := fun env S => match fa env S with
  | some (d, S1) => g d S1
  | none => none

section
variable {K : PySem.W.Frag} {fa fb fc : FE} {g : O2} {σ : L2.St} {H : Hp} {Q : VK}
theorem T_op (h : T K (f2 g fa fb) σ H Q) : tOp (RO K g) (T K fa) (T K fb) σ H Q := by
  obtain ⟨β, env, S, d, S', r, er, e, q⟩ := h
  unfold f2 at e
  cases h1 : fa env S with
  | none => rw [h1] at e; cases e
  | some p =>
    obtain ⟨d1, S1⟩ := p
    rw [h1] at e
    cases h2 : fb env S1 with
    | none => simp only [h2] at e; cases e
    | some p2 =>
      obtain ⟨d2, S2⟩ := p2
      simp only [h2] at e
      refine ⟨β, env, S, d1, S1, r, er, h1, fun β1 v1 H1 l1 x1 r1 v1r => ?_⟩
      refine ⟨β1, env, S1, d2, S2, r1, er.mono x1 l1, h2, fun β2 v2 H2 l2 x2 r2 v2r => ?_⟩
      exact ⟨β2, S2, d1, d2, d, S', r2, v1r.mono x2 l2, v2r, e, fun β3 v3 H3 l3 x3 r3 v3r => q β3 v3 H3 ((l1.trans l2).trans l3) ((x1.trans x2).trans x3) r3 v3r⟩
theorem T_un {g : O1} (h : T K (f1 g fa) σ H Q) : tUn (RO1 K g) (T K fa) σ H Q := by
  obtain ⟨β, env, S, d, S', r, er, e, q⟩ := h
  unfold f1 at e
  cases h1 : fa env S with
  | none => rw [h1] at e; cases e
  | some p =>
    obtain ⟨d1, S1⟩ := p
    rw [h1] at e
    refine ⟨β, env, S, d1, S1, r, er, h1, fun β1 v1 H1 l1 x1 r1 v1r => ?_⟩
    exact ⟨β1, S1, d1, d, S', r1, v1r, e, fun β3 v3 H3 l3 x3 r3 v3r => q β3 v3 H3 (l1.trans l3) (x1.trans x3) r3 v3r⟩
theorem T_N {g : ON} {fa : FA} (h : T K (fN g fa) σ H Q) : tCB (RON K g) (TA' K fa) σ H Q := by
  obtain ⟨β, env, S, d, S', r, er, e, q⟩ := h
  unfold fN at e
  cases h1 : fa env S with
  | none => rw [h1] at e; cases e
  | some p =>
    obtain ⟨d1, S1⟩ := p
    rw [h1] at e
    refine ⟨β, env, S, d1, S1, r, er, h1, fun β1 v1 H1 l1 x1 r1 v1r => ?_⟩
    exact ⟨β1, S1, d1, d, S', r1, v1r, e, fun β3 v3 H3 l3 x3 r3 v3r => q β3 v3 H3 (l1.trans l3) (x1.trans x3) r3 v3r⟩
def fNil : FA := fun _ S => some ([], S)
def fCons (fa : FE) (fr : FA) : FA := fun env S => match fa env S with
  | some (d, S1) => match fr env S1 with
    | some (ds, S2) => some (d :: ds, S2)
    | none => none
  | none => none
theorem T_nil {Q : List V → Hp → Prop} (h : TA' K fNil σ H Q) : tNil σ H Q := by
  obtain ⟨β, env, S, d, S', r, er, e, q⟩ := h
  cases e
  exact q β [] H (Le.refl _) (Ext.refl _) r .nil
theorem T_cons {fr : FA} {Q : List V → Hp → Prop} (h : TA' K (fCons fa fr) σ H Q) : tCons (T K fa) (TA' K fr) σ H Q := by
  obtain ⟨β, env, S, d, S', r, er, e, q⟩ := h
  unfold fCons at e
  cases h1 : fa env S with
  | none => rw [h1] at e; cases e
  | some p =>
    obtain ⟨d1, S1⟩ := p
    rw [h1] at e
    cases h2 : fr env S1 with
    | none => simp only [h2] at e; cases e
    | some p2 =>
      obtain ⟨d2, S2⟩ := p2
      simp only [h2] at e
      cases e
      refine ⟨β, env, S, d1, S1, r, er, h1, fun β1 v1 H1 l1 x1 r1 v1r => ?_⟩
      refine ⟨β1, env, S1, d2, _, r1, er.mono x1 l1, h2, fun β2 v2 H2 l2 x2 r2 v2r => ?_⟩
      exact q β2 _ H2 (l1.trans l2) (x1.trans x2) r2 (.cons (v1r.mono x2 l2) v2r)
end
end MP
namespace MP
open PySem L2

/-! ### the heap moves -/
theorem sqt_upd {K : PySem.W.Frag} {H : Hp} {p : Addr} {o : HO} (hp : H p = none ∨ ∃ xs, H p = some (.lst xs)) : Ext K H (upd H p o) := fun a xs h => by
  rcases h with (h | ⟨q, h⟩) | h
  · refine .inl (.inl ?_)
    rw [upd_ne ?_]
    · exact h
    · rintro rfl
      rcases hp with z | ⟨_, z⟩ <;> (rw [h] at z; cases z)
  · refine .inl (.inr ⟨q, ?_⟩)
    rw [upd_ne ?_]
    · exact h
    · rintro rfl
      rcases hp with z | ⟨_, z⟩ <;> (rw [h] at z; cases z)
  · exact .inr h
theorem frl_upd {K : PySem.W.Frag} {H : Hp} {p a : Addr} {o : HO} {xs : List V} (hp : H p = none ∨ ∃ xs, H p = some (.lst xs)) (h : FrL K H a xs) : FrL K (upd H p o) a xs := by
  rcases h with ⟨q, h⟩ | h
  · refine .inl ⟨q, ?_⟩
    rw [upd_ne ?_]
    · exact h
    · rintro rfl
      rcases hp with z | ⟨_, z⟩ <;> (rw [h] at z; cases z)
  · exact .inr h
theorem FrL.sq {K : PySem.W.Frag} {H : Hp} {a : Addr} {xs : List V} (h : FrL K H a xs) : SqL K H a xs := by
  rcases h with ⟨q, h⟩ | h
  · exact .inl (.inr ⟨q, h⟩)
  · exact h H
theorem CellAt.live {K : PySem.W.Frag} {H : Hp} {β : List Addr} {a : Addr} {c : Cell} (h : CellAt K H β a c) (m : c.mut = true) : H a ≠ none := by
  intro z
  cases c with
  | lst ds =>
    obtain ⟨xs, e, _⟩ := h
    rw [z] at e
    cases e
  | fro ds => cases m
  | dct =>
    have e : H a = some (.dK []) := h
    rw [z] at e
    cases e
/-- a new object that the store does not tell: a tuple -/
theorem R.tup {K : PySem.W.Frag} {β : List Addr} {H : Hp} {S : Sto} (r : R K β H S) {p : Addr} {o : HO} (hp : H p = none) : R K β (upd H p o) S :=
  ⟨r.len, r.inj, fun n a c h1 h2 => by
    have q := r.cell n a c h1 h2
    have x : Ext K H (upd H p o) := sqt_upd (.inl hp)
    cases c with
    | lst ds =>
      obtain ⟨xs, e, v⟩ := q
      exact ⟨xs, by rw [upd_ne (ne_of_none e hp)]; exact e, v.mono x (Le.refl _)⟩
    | fro ds =>
      obtain ⟨xs, e, v⟩ := q
      exact ⟨xs, frl_upd (.inl hp) e, v.mono x (Le.refl _)⟩
    | dct =>
      show upd H p o a = _
      rw [upd_ne (ne_of_none q hp)]
      exact q⟩
/-- a new cell -/
theorem R.new {K : PySem.W.Frag} {β : List Addr} {H : Hp} {S : Sto} (r : R K β H S) {p : Addr} {o : HO} {c : Cell} (hp : H p = none) (hc : CellAt K (upd H p o) (β ++ [p]) p c) : R K (β ++ [p]) (upd H p o) (S ++ [c]) := by
  have x : Ext K H (upd H p o) := sqt_upd (.inl hp)
  have old : ∀ {n : Nat} {a : Addr} {d : Cell}, (β ++ [p])[n]? = some a → (S ++ [c])[n]? = some d → (β[n]? = some a ∧ S[n]? = some d) ∨ (n = β.length ∧ a = p ∧ d = c) := fun {n a d} h1 h2 => by
    by_cases hn : n < β.length
    · rw [List.getElem?_append_left hn] at h1
      rw [List.getElem?_append_left (by rw [← r.len]; exact hn)] at h2
      exact .inl ⟨h1, h2⟩
    · rw [List.getElem?_append_right (by omega)] at h1
      rw [List.getElem?_append_right (by rw [← r.len]; omega)] at h2
      rw [← r.len] at h2
      have e : n - β.length = 0 := by
        have := (List.getElem?_eq_some_iff.mp h1).1
        simp at this
        omega
      rw [e] at h1 h2
      simp at h1 h2
      exact .inr ⟨by omega, h1.symm, h2.symm⟩
  refine ⟨by simp [r.len], fun n m a d d' h1 h2 h3 h4 m1 m2 => ?_, fun n a d h1 h2 => ?_⟩
  · rcases old h1 h3 with ⟨a1, a2⟩ | ⟨a1, a2, a3⟩
    · rcases old h2 h4 with ⟨b1, b2⟩ | ⟨b1, b2, b3⟩
      · exact r.inj n m a d d' a1 b1 a2 b2 m1 m2
      · subst b2
        exact absurd hp ((r.cell n a d a1 a2).live m1)
    · rcases old h2 h4 with ⟨b1, b2⟩ | ⟨b1, b2, b3⟩
      · subst a2
        exact absurd hp ((r.cell m a d' b1 b2).live m2)
      · omega
  · rcases old h1 h2 with ⟨a1, a2⟩ | ⟨a1, a2, a3⟩
    · have q := r.cell n a d a1 a2
      cases d with
      | lst ds =>
        obtain ⟨xs, e, v⟩ := q
        exact ⟨xs, by rw [upd_ne (ne_of_none e hp)]; exact e, v.mono x Le.app⟩
      | fro ds =>
        obtain ⟨xs, e, v⟩ := q
        exact ⟨xs, frl_upd (.inl hp) e, v.mono x Le.app⟩
      | dct =>
        show upd H p o a = _
        rw [upd_ne (ne_of_none q hp)]
        exact q
    · subst a2 a3
      exact hc
/-- a list's items change -/
theorem R.put {K : PySem.W.Frag} {β : List Addr} {H : Hp} {S : Sto} (r : R K β H S) {n : Nat} {p : Addr} {xs ys : List V} {ds es : List D} (hn : β[n]? = some p) (hs : S[n]? = some (.lst ds)) (hp : H p = some (.lst xs)) (v : VRs K H β ys es) :
    R K β (upd H p (.lst ys)) (S.set n (.lst es)) := by
  have x : Ext K H (upd H p (.lst ys)) := sqt_upd (.inr ⟨_, hp⟩)
  have hl : n < S.length := (List.getElem?_eq_some_iff.mp hs).1
  have old : ∀ {m : Nat} {d : Cell}, (S.set n (.lst es))[m]? = some d → (m = n ∧ d = .lst es) ∨ (m ≠ n ∧ S[m]? = some d) := fun {m d} h => by
    by_cases e : n = m
    · subst e
      rw [List.getElem?_set_self hl] at h
      exact .inl ⟨rfl, (Option.some.inj h).symm⟩
    · rw [List.getElem?_set_ne e] at h
      exact .inr ⟨fun q => e q.symm, h⟩
  have mold : ∀ {m : Nat} {d : Cell}, (S.set n (.lst es))[m]? = some d → d.mut = true → ∃ d', S[m]? = some d' ∧ d'.mut = true := fun {m d} h hm => by
    rcases old h with ⟨a, b⟩ | ⟨a, b⟩
    · subst a
      exact ⟨_, hs, rfl⟩
    · exact ⟨d, b, hm⟩
  refine ⟨by simp [r.len], fun i j a c c' h1 h2 h3 h4 m1 m2 => ?_, fun i a c h1 h2 => ?_⟩
  · obtain ⟨c1, e1, k1⟩ := mold h3 m1
    obtain ⟨c2, e2, k2⟩ := mold h4 m2
    exact r.inj i j a c1 c2 h1 h2 e1 e2 k1 k2
  · rcases old h2 with ⟨q1, q2⟩ | ⟨q1, q2⟩
    · subst q1 q2
      rw [hn] at h1
      cases h1
      exact ⟨ys, upd_same, v.mono x (Le.refl _)⟩
    · have q := r.cell i a c h1 q2
      have ne : c.mut = true → a ≠ p := fun hm e => by
        subst e
        exact q1 (r.inj i n a c (.lst ds) h1 hn q2 hs hm rfl)
      cases c with
      | lst ds =>
        obtain ⟨zs, e, v⟩ := q
        exact ⟨zs, by rw [upd_ne (ne rfl)]; exact e, v.mono x (Le.refl _)⟩
      | fro ds =>
        obtain ⟨zs, e, v⟩ := q
        exact ⟨zs, frl_upd (.inr ⟨_, hp⟩) e, v.mono x (Le.refl _)⟩
      | dct =>
        show upd H p (.lst ys) a = _
        rw [upd_ne (ne rfl)]
        exact q
theorem R.lst {K : PySem.W.Frag} {β : List Addr} {H : Hp} {S : Sto} (r : R K β H S) {n : Nat} {ds : List D} (hs : S[n]? = some (.lst ds)) : ∃ (a : Addr) (xs : List V), β[n]? = some a ∧ H a = some (.lst xs) ∧ VRs K H β xs ds := by
  have hl : n < β.length := by rw [r.len]; exact (List.getElem?_eq_some_iff.mp hs).1
  obtain ⟨xs, e, v⟩ := r.cell n β[n] _ (List.getElem?_eq_getElem hl) hs
  exact ⟨β[n], xs, List.getElem?_eq_getElem hl, e, v⟩
/-- a list that may be read -/
def itemsAt (S : Sto) (n : Nat) : Option (List D) := match S[n]? with
  | some (.lst l) => some l
  | some (.fro l) => some l
  | _ => none
theorem R.items {K : PySem.W.Frag} {β : List Addr} {H : Hp} {S : Sto} (r : R K β H S) {n : Nat} {a : Addr} {ds : List D} (ha : β[n]? = some a) (hs : itemsAt S n = some ds) : ∃ xs : List V, SqL K H a xs ∧ VRs K H β xs ds := by
  unfold itemsAt at hs
  cases h : S[n]? with
  | none => rw [h] at hs; cases hs
  | some c =>
    rw [h] at hs
    have q := r.cell n a c ha h
    cases c with
    | lst l =>
      cases hs
      obtain ⟨xs, e, v⟩ := q
      exact ⟨xs, SqL.of e, v⟩
    | fro l =>
      cases hs
      obtain ⟨xs, e, v⟩ := q
      exact ⟨xs, e.sq, v⟩
    | dct => cases hs

/-! ### what an operation on data gives -/
section
variable {X : Cx}
theorem OpR.to {f : Value → Value → Sem Value} {r u : R2} (h : OpR X f r) (w : ∀ x y H Q, u x y H Q → r x y H Q) : OpR X f u := fun pins s σ H x y v v' Q I rx ry q => h pins s σ H x y v v' Q I rx ry (w _ _ _ _ q)
theorem CallR.to {f : Value} {r u : List V → Hp → VK → Prop} (h : CallR X f r) (w : ∀ x H Q, u x H Q → r x H Q) : CallR X f u := fun pins s σ H x v Q I rx q => h pins s σ H x v Q I rx (w _ _ _ q)
end
/-- a result that is given at once -/
def gI (c : Bool) (d : D) (S : Sto) : Option (D × Sto) := if c = true then some (d, S) else none
/-- a new list -/
def newL (ds : List D) (S : Sto) : Option (D × Sto) := if ds.length ≤ sizeLine then some (.ref S.length, S ++ [.lst ds]) else none
theorem VRs.sz {K : PySem.W.Frag} {H : Hp} {β : List Addr} {vs : List V} {ds : List D} (h : VRs K H β vs ds) (z : ds.length ≤ sizeLine) : vs.length ≤ sizeLine := by
  rw [h.length]
  exact z
/-- the ways a result is handed on -/
theorem out_same {K : PySem.W.Frag} {β : List Addr} {H : Hp} {S : Sto} {v : V} {d : D} {Q : VK} (r : R K β H S) (h : VR K H β v d) (q : ∀ β' v H', Le β β' → Ext K H H' → R K β' H' S → VR K H' β' v d → Q v H') : Q v H :=
  q β v H (Le.refl _) (Ext.refl _) r h
theorem out_tup {K : PySem.W.Frag} {β : List Addr} {H : Hp} {S : Sto} {vs : List V} {ds : List D} {Q : VK} {p : Addr} (r : R K β H S) (h : VRs K H β vs ds) (hp : H p = none) (q : ∀ β' v H', Le β β' → Ext K H H' → R K β' H' S → VR K H' β' v (.tup ds) → Q v H') : Q (.ref p) (upd H p (.tup vs)) :=
  q β _ _ (Le.refl _) (sqt_upd (.inl hp)) (r.tup hp) (.tup (SqT.of upd_same) (h.mono (sqt_upd (.inl hp)) (Le.refl _)))
theorem out_lst {K : PySem.W.Frag} {β : List Addr} {H : Hp} {S : Sto} {vs : List V} {ds : List D} {Q : VK} {p : Addr} (r : R K β H S) (h : VRs K H β vs ds) (hp : H p = none) (q : ∀ β' v H', Le β β' → Ext K H H' → R K β' H' (S ++ [.lst ds]) → VR K H' β' v (.ref S.length) → Q v H') : Q (.ref p) (upd H p (.lst vs)) :=
  q _ _ _ Le.app (sqt_upd (.inl hp)) (r.new hp ⟨vs, upd_same, h.mono (sqt_upd (.inl hp)) Le.app⟩) (.ref (by rw [← r.len]; simp))
theorem newL_ok {ds : List D} {S S' : Sto} {d : D} (h : newL ds S = some (d, S')) : ds.length ≤ sizeLine ∧ d = .ref S.length ∧ S' = S ++ [.lst ds] := by
  unfold newL at h
  split at h
  · cases h
    exact ⟨by assumption, rfl, rfl⟩
  · cases h
theorem gI_ok {c : Bool} {d e : D} {S S' : Sto} (h : gI c d S = some (e, S')) : c = true ∧ e = d ∧ S' = S := by
  unfold gI at h
  split at h
  · cases h
    exact ⟨by assumption, rfl, rfl⟩
  · cases h
end MP
/-! tuple * 1 and tuple * k for k ≤ 0 -/
namespace L2
open PySem PySem.Spec PyProof.Rows
theorem tuple_mulW1 (l : Addr) (items : Array Value) (n : Nat) (dd : Option Addr) (sl : Array (Option Value)) (x : Int) (u : Tok) (c0 : (decide (x < -(2 ^ 63)) || decide (x ≥ 2 ^ 63)) = false) (c1 : (items.isEmpty || x == 1) = true) :
    Meets (Builtin.«tuple.__mul__» ⟨[.ref l, .int x u], []⟩) (fun _ R s => s.heap.get? l = some { cls := .type "tuple", dict := dd, data := .seq items n, slots := sl } ∧
      R (.ok (.ret (Value.ref l))) { s with heap := s.heap, toks := s.toks }) :=
  .of_wp fun prog w A R s h => by
    obtain ⟨hp, g, d, tk, os⟩ := s
    obtain ⟨hl, h⟩ := h
    have f1 := AutoSeq1.idx_int
    wp_walk using wpAny_loadPart' hl
    repeat (first
      | (refine wpAny_ite_false (decide_eq_false (by rw [c0]; exact Bool.false_ne_true)) ?_; wp_walk using wpAny_loadPart' hl)
      | (refine wpAny_ite_true (decide_eq_true (by rw [c1])) ?_; wp_walk using wpAny_loadPart' hl))
    exact ⟨_, rfl, h⟩
theorem tuple_mulW0 (l : Addr) (items : Array Value) (n : Nat) (dd : Option Addr) (sl : Array (Option Value)) (x : Int) (u : Tok) (c0 : (decide (x < -(2 ^ 63)) || decide (x ≥ 2 ^ 63)) = false) (c1 : (items.isEmpty || x == 1) = false) (c2 : (decide (x ≤ 0) || items.isEmpty) = true) :
    Meets (Builtin.«tuple.__mul__» ⟨[.ref l, .int x u], []⟩) (fun _ R s => s.heap.get? l = some { cls := .type "tuple", dict := dd, data := .seq items n, slots := sl } ∧
      R (.ok (.ret (Value.ref s.heap.objs.size))) { s with heap := s.heap.push { cls := Value.type "tuple", data := Data.seq #[] }, toks := s.toks }) :=
  .of_wp fun prog w A R s h => by
    obtain ⟨hp, g, d, tk, os⟩ := s
    obtain ⟨hl, h⟩ := h
    have f1 := AutoSeq1.idx_int
    wp_walk using wpAny_loadPart' hl
    repeat (first
      | (refine wpAny_ite_false (decide_eq_false (by rw [c0]; exact Bool.false_ne_true)) ?_; wp_walk using wpAny_loadPart' hl)
      | (refine wpAny_ite_false (decide_eq_false (by rw [c1]; exact Bool.false_ne_true)) ?_; wp_walk using wpAny_loadPart' hl)
      | (refine wpAny_ite_true (decide_eq_true (by rw [c2])) ?_; wp_walk using wpAny_loadPart' hl))
    exact ⟨_, rfl, h⟩
def rRepT1 (K : PySem.W.Frag) : R2 := fun x y H Q => ∃ l xs, x = .ref l ∧ y = .int 1 ∧ SqT K H l xs ∧ Q (.ref l) H
def rRepT0 (K : PySem.W.Frag) : R2 := fun x y H Q => ∃ l k xs, x = .ref l ∧ y = .int k ∧ SqT K H l xs ∧ xs ≠ [] ∧ -1000000 ≤ k ∧ k ≤ 0 ∧ ∀ p, H p = none → Q (.ref p) (upd H p (.tup []))
section
variable {X : Cx}
theorem op_repT1 : OpR X (binaryOp .Mult) (rRepT1 X.K) := by
  intro pins s σ H x y v u Q I rx ry h
  obtain ⟨l, xs, rfl, rfl, hT, q⟩ := h
  cases rx
  obtain ⟨t, rfl⟩ := ry
  obtain ⟨its, r, ⟨⟨cls, dd, data, sl⟩, ho, hc, n, hd⟩, hs⟩ := I.tuple hT
  simp only at hc hd
  subst hc hd
  exact wpAny_binaryOp_repeat_ref (T := "tuple") (U := "int") (by decide) ⟨_, ho, rfl⟩ (fun s' => typeIs_int s' 1 t) noFill_tuple_mul F.fills_int_mul F.slot_int_rmul repeat_tuple F.slot_int_index.lookup
    (call_meets F.slot_int_rmul (typeIs_int s 1 t) F.entry_int_rmul (F.args_int_rmul_2 _ _) (int_rmul_tuple 1 t l its.toArray n dd sl)
      ⟨ho, rfl, ⟨_, ho, rfl⟩, call_meets F.slot_tuple_mul ⟨_, ho, rfl⟩ F.entry_tuple_mul (F.args_tuple_mul_2 _ _) (tuple_mulW1 l its.toArray n dd sl 1 t (by decide) (by simp)) ⟨ho, ⟨.ref l, H, I, rfl, q⟩⟩⟩)
theorem op_repT0 : OpR X (binaryOp .Mult) (rRepT0 X.K) := by
  intro pins s σ H x y v u Q I rx ry h
  obtain ⟨l, k, xs, rfl, rfl, hT, hne, h1, h2, q⟩ := h
  cases rx
  obtain ⟨t, rfl⟩ := ry
  obtain ⟨its, r, ⟨⟨cls, dd, data, sl⟩, ho, hc, n, hd⟩, hs⟩ := I.tuple hT
  simp only at hc hd
  subst hc hd
  have hle : its.length = xs.length := r.length.symm
  have hn : its ≠ [] := fun e => hne (by
    rw [e] at hle
    exact List.eq_nil_of_length_eq_zero hle.symm)
  have hi : its.toArray.isEmpty = false := by
    cases its with
    | nil => exact absurd rfl hn
    | cons a b => rfl
  have c0 : (decide (k < -(2 ^ 63)) || decide (k ≥ 2 ^ 63)) = false := by
    rw [decide_eq_false (by omega), decide_eq_false (by omega)] <;> rfl
  have c1 : (its.toArray.isEmpty || k == 1) = false := by
    rw [hi, Bool.false_or]
    exact beq_eq_false_iff_ne.mpr (by omega)
  have c2 : (decide (k ≤ 0) || its.toArray.isEmpty) = true := by
    rw [hi, Bool.or_false]
    exact decide_eq_true (by omega)
  refine wpAny_binaryOp_repeat_ref (T := "tuple") (U := "int") (by decide) ⟨_, ho, rfl⟩ (fun s' => typeIs_int s' k t) noFill_tuple_mul F.fills_int_mul F.slot_int_rmul repeat_tuple F.slot_int_index.lookup
    (call_meets F.slot_int_rmul (typeIs_int s k t) F.entry_int_rmul (F.args_int_rmul_2 _ _) (int_rmul_tuple k t l its.toArray n dd sl)
      ⟨ho, rfl, ⟨_, ho, rfl⟩, call_meets F.slot_tuple_mul ⟨_, ho, rfl⟩ F.entry_tuple_mul (F.args_tuple_mul_2 _ _) (tuple_mulW0 l its.toArray n dd sl k t c0 c1 c2) ⟨ho, ?_⟩⟩)
  refine ⟨.ref s.heap.objs.size, _, I.laid (t' := s.toks) (o := .tup []) (fun b ob q => Heap.get?_push_of_some _ q) (Nat.le_refl _) ?_, rfl, q _ (I.hok.fresh (Nat.le_refl _))⟩
  exact ⟨Nat.zero_le _, _, .nil, IsTup.new _ _⟩
end
end L2
namespace MP
open PySem L2

/-! ### data as the library's own -/
mutual
def pyT : D → Option PyData
  | .non => some .none
  | .bl b => some (.bool b)
  | .int i => some (.int i)
  | .str s => some (.str s)
  | .tup l => match pyTs l with
    | some ps => some (.tuple ps)
    | none => none
  | .ref _ => none
def pyTs : List D → Option (List PyData)
  | [] => some []
  | d :: ds => match pyT d, pyTs ds with
    | some p, some ps => some (p :: ps)
    | _, _ => none
end
def py (S : Sto) (d : D) : Option PyData := match d with
  | .ref n => match itemsAt S n with
    | some l => match pyTs l with
      | some ps => some (.list ps)
      | none => none
    | none => none
  | d => pyT d
section
variable {K : PySem.W.Frag} {β : List Addr} {H : Hp} {S : Sto}
mutual
theorem VR.dp : ∀ {v : V} {d : D}, VR K H β v d → ∀ {p : PyData}, pyT d = some p → Dp K H v p
  | _, _, .non, p, e => by
    simp only [pyT] at e
    cases e
    exact .non
  | _, _, .bl b, p, e => by
    simp only [pyT] at e
    cases e
    exact .bl b
  | _, _, .int i, p, e => by
    simp only [pyT] at e
    cases e
    exact .int i
  | _, _, .str s, p, e => by
    simp only [pyT] at e
    cases e
    exact .str s
  | _, _, .tup (ds := ds) h r, p, e => by
    simp only [pyT] at e
    cases h1 : pyTs ds with
    | none => rw [h1] at e; cases e
    | some ps =>
      rw [h1] at e
      cases e
      exact .tup h (VRs.dp r h1)
  | _, _, .ref _, p, e => by
    simp only [pyT] at e
    cases e
theorem VRs.dp : ∀ {vs : List V} {ds : List D}, VRs K H β vs ds → ∀ {ps : List PyData}, pyTs ds = some ps → DpAll K H vs ps
  | _, _, .nil, p, e => by
    simp only [pyTs] at e
    cases e
    exact .nil
  | _, _, .cons (d := d) (ds := ds) h r, p, e => by
    simp only [pyTs] at e
    cases h1 : pyT d with
    | none => simp only [h1] at e; cases e
    | some q =>
      cases h2 : pyTs ds with
      | none => simp only [h1, h2] at e; cases e
      | some qs =>
        simp only [h1, h2] at e
        cases e
        exact .cons (VR.dp h h1) (VRs.dp r h2)
end
theorem R.dp (r : R K β H S) {v : V} {d : D} (h : VR K H β v d) {p : PyData} (e : py S d = some p) : Dp K H v p := by
  cases h with
  | ref hn =>
    rename_i a n
    unfold py at e
    simp only at e
    cases h1 : itemsAt S n with
    | none => rw [h1] at e; cases e
    | some l =>
      simp only [h1] at e
      cases h2 : pyTs l with
      | none => rw [h2] at e; cases e
      | some ps =>
        rw [h2] at e
        cases e
        obtain ⟨xs, q, v⟩ := r.items hn h1
        exact .lst q (v.dp h2)
  | non => exact VR.dp (β := β) .non e
  | bl b => exact VR.dp (β := β) (.bl b) e
  | int i => exact VR.dp (β := β) (.int i) e
  | str s => exact VR.dp (β := β) (.str s) e
  | tup h r => exact VR.dp (.tup h r) e
end

/-! ### arithmetic -/
def intOp (C : Int → Int → Bool) (g : Int → Int → D) : O2 := fun x y S => match x, y with
  | .int i, .int j => gI (C i j) (g i j) S
  | _, _ => none
section
variable {X : Cx}
theorem ro_int {f : Value → Value → Sem Value} {C' : Int → Int → Prop} {C : Int → Int → Bool} {g : Int → Int → Int} (h : OpR X f (rI C' fun i j => .int (g i j))) (hc : ∀ i j, C i j = true → C' i j) : OpR X f (RO X.K (intOp C fun i j => .int (g i j))) :=
  OpR.to h fun x y H Q ⟨β, S, d, e, r, S', R0, h1, h2, h3, q⟩ => by
    cases h1 <;> cases h2 <;> first | (simp only [intOp] at h3; cases h3; done) | skip
    obtain ⟨c, e1, e2⟩ := gI_ok h3
    subst e1 e2
    exact ⟨_, _, rfl, rfl, hc _ _ c, out_same R0 (.int _) q⟩
theorem ro_cmp {f : Value → Value → Sem Value} {g : Int → Int → Bool} (h : OpR X f (rI0 fun i j => .bl (g i j))) : OpR X f (RO X.K (intOp (fun _ _ => true) fun i j => .bl (g i j))) :=
  OpR.to h fun x y H Q ⟨β, S, d, e, r, S', R0, h1, h2, h3, q⟩ => by
    cases h1 <;> cases h2 <;> first | (simp only [intOp] at h3; cases h3; done) | skip
    obtain ⟨c, e1, e2⟩ := gI_ok h3
    subst e1 e2
    exact ⟨_, _, rfl, rfl, out_same R0 (.bl _) q⟩
end
def oSub : O2 := intOp (fun _ _ => true) fun i j => .int (i - j)
def oFdv : O2 := intOp (fun _ j => decide (0 < j ∧ j.natAbs < 2 ^ 4096)) fun i j => .int (i / j)
def oMod : O2 := intOp (fun _ j => decide (0 < j)) fun i j => .int (i % j)
def oPow : O2 := intOp (fun i j => decide (0 ≤ j ∧ j ≤ 1000000 ∧ i.natAbs < 2 ^ 64)) fun i j => .int (i ^ j.toNat)
def oShl : O2 := intOp (fun i j => decide (0 ≤ j ∧ j ≤ 1000000 ∧ i.natAbs < 2 ^ 4096)) fun i j => .int (i * 2 ^ j.toNat)
def oShr : O2 := intOp (fun _ j => decide (0 ≤ j)) fun i j => .int (i / 2 ^ j.toNat)
def oAnd : O2 := intOp (fun _ _ => true) fun i j => .int (Builtin.bitAnd i j)
def oOr : O2 := intOp (fun _ _ => true) fun i j => .int (Builtin.bitOr i j)
def oXor : O2 := intOp (fun _ _ => true) fun i j => .int (Builtin.bitXor i j)
def oLt : O2 := intOp (fun _ _ => true) fun i j => .bl (decide (i < j))
def oLe : O2 := intOp (fun _ _ => true) fun i j => .bl (decide (i ≤ j))
def oGt : O2 := intOp (fun _ _ => true) fun i j => .bl (decide (j < i))
def oGe : O2 := intOp (fun _ _ => true) fun i j => .bl (decide (j ≤ i))
theorem log2_lt {m n : Nat} (h : m < 2 ^ n) (hn : 0 < n) : m.log2 < n := by
  by_cases z : m = 0
  · subst z
    simpa using hn
  · exact (Nat.log2_lt z).mpr h
section
variable {X : Cx}
theorem or_sub : OpR X (binaryOp .Sub) (RO X.K oSub) := ro_int (C' := fun _ _ => True) (OpR.to op_sub fun x y H Q ⟨i, j, h1, h2, _, q⟩ => ⟨i, j, h1, h2, q⟩) fun _ _ _ => trivial
theorem or_fdv : OpR X (binaryOp .FloorDiv) (RO X.K oFdv) := ro_int op_fdivW fun i j h => by
  simp only [decide_eq_true_eq] at h
  exact ⟨h.1, Nat.lt_trans (log2_lt h.2 (by decide)) (by decide)⟩
theorem or_mod : OpR X (binaryOp .Mod) (RO X.K oMod) := ro_int op_mod fun i j h => by simpa using h
theorem or_pow : OpR X (binaryOp .Pow) (RO X.K oPow) := ro_int op_pow fun i j h => by simpa [CPow] using h
theorem or_shl : OpR X (binaryOp .LShift) (RO X.K oShl) := ro_int op_shlW fun i j h => by
  simp only [decide_eq_true_eq] at h
  refine ⟨h.1, ?_⟩
  have h2 := log2_lt h.2.2 (by decide)
  have h3 : Builtin.Int.intBits i ≤ i.natAbs.log2 + 1 := by
    unfold Builtin.Int.intBits
    split <;> omega
  omega
theorem or_shr : OpR X (binaryOp .RShift) (RO X.K oShr) := ro_int op_shr fun i j h => by simpa using h
theorem or_and : OpR X (binaryOp .BitAnd) (RO X.K oAnd) := ro_int (C' := fun _ _ => True) (OpR.to op_and fun x y H Q ⟨i, j, h1, h2, _, q⟩ => ⟨i, j, h1, h2, q⟩) fun _ _ _ => trivial
theorem or_or : OpR X (binaryOp .BitOr) (RO X.K oOr) := ro_int (C' := fun _ _ => True) (OpR.to op_or fun x y H Q ⟨i, j, h1, h2, _, q⟩ => ⟨i, j, h1, h2, q⟩) fun _ _ _ => trivial
theorem or_xor : OpR X (binaryOp .BitXor) (RO X.K oXor) := ro_int (C' := fun _ _ => True) (OpR.to op_xor fun x y H Q ⟨i, j, h1, h2, _, q⟩ => ⟨i, j, h1, h2, q⟩) fun _ _ _ => trivial
theorem or_lt : OpR X (compareOp .Lt) (RO X.K oLt) := ro_cmp op_lt
theorem or_le : OpR X (compareOp .LtE) (RO X.K oLe) := ro_cmp op_le
theorem or_gt : OpR X (compareOp .Gt) (RO X.K oGt) := ro_cmp op_gt
theorem or_ge : OpR X (compareOp .GtE) (RO X.K oGe) := ro_cmp op_ge
end

def oAdd : O2 := fun x y S => match x, y with
  | .int i, .int j => some (.int (i + j), S)
  | .str a, .str b => gI (decide (a.length + b.length ≤ sizeLine)) (.str (a ++ b)) S
  | .tup a, .tup b => gI (decide (a.length + b.length ≤ sizeLine)) (.tup (a ++ b)) S
  | .ref a, .ref b => match S[a]?, S[b]? with
    | some (.lst xs), some (.lst ys) => newL (xs ++ ys) S
    | _, _ => none
  | _, _ => none
section
variable {X : Cx}
theorem or_add : OpR X (binaryOp .Add) (RO X.K oAdd) := by
  refine OpR.to (OpR.or op_add (OpR.or op_add_str (OpR.or op_catA op_cat))) ?_
  rintro x y H Q ⟨β, S, d, e, r, S', R0, h1, h2, h3, q⟩
  cases h1 <;> cases h2 <;> first | (simp only [oAdd] at h3; cases h3; done) | skip
  · rename_i i j
    simp only [oAdd] at h3
    cases h3
    exact .inl ⟨i, j, rfl, rfl, out_same R0 (.int _) q⟩
  · rename_i i j
    simp only [oAdd] at h3
    obtain ⟨c, e1, e2⟩ := gI_ok h3
    subst e1 e2
    exact .inr (.inl ⟨i, j, rfl, rfl, by simpa using c, out_same R0 (.str _) q⟩)
  · rename_i a xs ds hx rx b ys es hy ry
    simp only [oAdd] at h3
    obtain ⟨c, e1, e2⟩ := gI_ok h3
    subst e1 e2
    have c' : ds.length + es.length ≤ sizeLine := by simpa using c
    refine .inr (.inr (.inl ⟨a, b, xs, ys, rfl, rfl, hx, hy, by rw [rx.length, ry.length]; exact c', fun z => ?_, fun z1 z2 => ?_, fun z1 z2 p hp => ?_⟩))
    · subst z
      cases rx
      exact out_same R0 (.tup hy ry) q
    · subst z2
      cases ry
      refine out_same R0 (.tup hx ?_) q
      simpa using rx
    · exact out_tup R0 (rx.app ry) hp q
  · rename_i a n hn b m hm
    simp only [oAdd] at h3
    cases h4 : S[n]? with
    | none => simp only [h4] at h3; cases h3
    | some c1 =>
      cases h5 : S[m]? with
      | none => cases c1 <;> (simp only [h4, h5] at h3; cases h3)
      | some c2 =>
        cases c1 <;> cases c2 <;> first | (simp only [h4, h5] at h3; cases h3; done) | skip
        simp only [h4, h5] at h3
        obtain ⟨z, e1, e2⟩ := newL_ok h3
        subst e1 e2
        obtain ⟨xs, ex, vx⟩ := R0.cell n a _ hn h4
        obtain ⟨ys, ey, vy⟩ := R0.cell m b _ hm h5
        refine .inr (.inr (.inr ⟨a, b, xs, ys, rfl, rfl, ex, ey, by rw [vx.length, vy.length]; simpa using z, fun p hp => ?_⟩))
        exact out_lst R0 (vx.app vy) hp q
end
def oMul : O2 := fun x y S => match x, y with
  | .int i, .int j => gI (decide ((-(2 ^ 64) < i ∧ i < 2 ^ 64) ∨ (-(2 ^ 64) < j ∧ j < 2 ^ 64))) (.int (i * j)) S
  | .tup a, .int k => gI (decide (a ≠ [] ∧ -1000000 ≤ k ∧ k ≤ 1000 ∧ a.length ≤ 1000)) (.tup (List.replicate k.toNat a).flatten) S
  | .ref a, .int k => match S[a]? with
    | some (.lst xs) => if 0 ≤ k ∧ k ≤ 1000000 ∧ xs.length * k.toNat ≤ sizeLine then newL (List.replicate k.toNat xs).flatten S else none
    | _ => none
  | _, _ => none
theorem VRs.rep {K : PySem.W.Frag} {H : Hp} {β : List Addr} {vs : List V} {ds : List D} (h : VRs K H β vs ds) : ∀ n : Nat, VRs K H β (List.replicate n vs).flatten (List.replicate n ds).flatten
  | 0 => .nil
  | n + 1 => by
    rw [List.replicate_succ, List.replicate_succ, List.flatten_cons, List.flatten_cons]
    exact h.app (VRs.rep h n)
section
variable {X : Cx}
theorem or_mul : OpR X (binaryOp .Mult) (RO X.K oMul) := by
  refine OpR.to (OpR.or op_mul (OpR.or op_repT (OpR.or op_rep (OpR.or op_repT1 op_repT0)))) ?_
  rintro x y H Q ⟨β, S, d, e, r, S', R0, h1, h2, h3, q⟩
  cases h1 <;> cases h2 <;> first | (simp only [oMul] at h3; cases h3; done) | skip
  · rename_i i j
    simp only [oMul] at h3
    obtain ⟨c, e1, e2⟩ := gI_ok h3
    subst e1 e2
    exact .inl ⟨i, j, rfl, rfl, by simpa [CMul] using c, out_same R0 (.int _) q⟩
  · rename_i a xs ds hx rx k
    simp only [oMul] at h3
    obtain ⟨c, e1, e2⟩ := gI_ok h3
    subst e1 e2
    simp only [decide_eq_true_eq] at c
    obtain ⟨c1, c2, c3, c4⟩ := c
    have nx : xs ≠ [] := fun z => by
      subst z
      cases rx
      exact c1 rfl
    by_cases k2 : 2 ≤ k
    · exact .inr (.inl ⟨a, k, xs, rfl, rfl, hx, nx, k2, c3, by rw [rx.length]; exact c4, fun p hp => out_tup R0 (rx.rep _) hp q⟩)
    by_cases k1 : k = 1
    · subst k1
      refine .inr (.inr (.inr (.inl ⟨a, xs, rfl, rfl, hx, out_same R0 (.tup hx ?_) q⟩)))
      simpa using rx
    · have k0 : k.toNat = 0 := by omega
      rw [k0] at q
      exact .inr (.inr (.inr (.inr ⟨a, k, xs, rfl, rfl, hx, nx, c2, by omega, fun p hp => out_tup R0 .nil hp q⟩)))
  · rename_i a n hn k
    simp only [oMul] at h3
    cases h4 : S[n]? with
    | none => simp only [h4] at h3; cases h3
    | some c1 =>
      cases c1 <;> first | (simp only [h4] at h3; cases h3; done) | skip
      simp only [h4] at h3
      split at h3
      · rename_i c
        obtain ⟨c1, c2, c3⟩ := c
        obtain ⟨z, e1, e2⟩ := newL_ok h3
        subst e1 e2
        obtain ⟨xs, ex, vx⟩ := R0.cell n a _ hn h4
        exact .inr (.inr (.inl ⟨a, k, xs, rfl, rfl, ex, by omega, by omega, by rw [vx.length]; exact c3, fun p hp => out_lst R0 (vx.rep _) hp q⟩))
      · cases h3
end

/-! ### comparisons -/
/-- == of plain values -/
def scE : D → D → Option Bool
  | .non, .non => some true
  | .int i, .int j => some (decide (i = j))
  | .bl i, .bl j => some (decide (i = j))
  | .str i, .str j => some (decide (i = j))
  | .non, .int _ => some false
  | .int _, .non => some false
  | .non, .str _ => some false
  | .str _, .non => some false
  | .int _, .str _ => some false
  | .str _, .int _ => some false
  | _, _ => none
def eqD (S : Sto) (x y : D) : Option Bool := match scE x y with
  | some b => some b
  | none => match py S x, py S y with
    | some p, some q => if SeqAt.shaped p = true ∧ SeqAt.shaped q = true then some (PyData.eqv p q) else none
    | _, _ => none
def oEq : O2 := fun x y S => match eqD S x y with
  | some b => some (.bl b, S)
  | none => none
def oNe : O2 := fun x y S => match eqD S x y with
  | some b => some (.bl (!b), S)
  | none => none
theorem dec_inj {α : Type} [DecidableEq α] {f : α → V} (hf : ∀ a b, f a = f b → a = b) (a b : α) : decide (f a = f b) = decide (a = b) := by
  by_cases e : a = b
  · subst e
    simp
  · rw [decide_eq_false e, decide_eq_false (fun q => e (hf _ _ q))]
section
variable {X : Cx}
theorem scE_ok {K : PySem.W.Frag} {H : Hp} {β : List Addr} {x y : V} {d e : D} (h1 : VR K H β x d) (h2 : VR K H β y e) {b : Bool} (h : scE d e = some b) : scal x y = true ∧ decide (x = y) = b := by
  cases h1 <;> cases h2 <;> first | (simp only [scE] at h; cases h; done) | skip
  all_goals (simp only [scE] at h; cases h; refine ⟨rfl, ?_⟩)
  all_goals first | exact decide_eq_true rfl | exact dec_inj (fun _ _ q => by injection q) _ _ | exact decide_eq_false (fun q => by cases q)
theorem eqD_ok {K : PySem.W.Frag} {H : Hp} {β : List Addr} {S : Sto} (r : R K β H S) {x y : V} {d e : D} (h1 : VR K H β x d) (h2 : VR K H β y e) {b : Bool} (h : eqD S d e = some b) :
    (scal x y = true ∧ decide (x = y) = b) ∨ ∃ p q, Dp K H x p ∧ Dp K H y q ∧ SeqAt.shaped p = true ∧ SeqAt.shaped q = true ∧ PyData.eqv p q = b := by
  unfold eqD at h
  cases h3 : scE d e with
  | some c =>
    rw [h3] at h
    cases h
    exact .inl (scE_ok h1 h2 h3)
  | none =>
    simp only [h3] at h
    cases h4 : py S d with
    | none => simp only [h4] at h; cases h
    | some p =>
      cases h5 : py S e with
      | none => simp only [h4, h5] at h; cases h
      | some q =>
        simp only [h4, h5] at h
        split at h
        · rename_i c
          cases h
          exact .inr ⟨p, q, r.dp h1 h4, r.dp h2 h5, c.1, c.2, rfl⟩
        · cases h
theorem or_eq (hu : X.A.units + 64 < cLine) : OpR X (compareOp .Eq) (RO X.K oEq) := by
  refine OpR.to (OpR.or op_eq (op_eqD hu)) ?_
  rintro x y H Q ⟨β, S, d, e, r, S', R0, h1, h2, h3, q⟩
  unfold oEq at h3
  cases h : eqD S d e with
  | none => rw [h] at h3; cases h3
  | some b =>
    rw [h] at h3
    cases h3
    rcases eqD_ok R0 h1 h2 h with ⟨a1, a2⟩ | ⟨p, p', a1, a2, a3, a4, a5⟩
    · refine .inl ⟨a1, ?_⟩
      rw [a2]
      exact out_same R0 (.bl _) q
    · refine .inr ⟨p, p', a1, a2, a3, a4, ?_⟩
      rw [a5]
      exact out_same R0 (.bl _) q
theorem or_ne (hu : X.A.units + 64 < cLine) : OpR X (compareOp .NotEq) (RO X.K oNe) := by
  refine OpR.to (OpR.or op_ne (op_neD hu)) ?_
  rintro x y H Q ⟨β, S, d, e, r, S', R0, h1, h2, h3, q⟩
  unfold oNe at h3
  cases h : eqD S d e with
  | none => rw [h] at h3; cases h3
  | some b =>
    rw [h] at h3
    cases h3
    rcases eqD_ok R0 h1 h2 h with ⟨a1, a2⟩ | ⟨p, p', a1, a2, a3, a4, a5⟩
    · refine .inl ⟨a1, ?_⟩
      rw [a2]
      exact out_same R0 (.bl _) q
    · refine .inr ⟨p, p', a1, a2, a3, a4, ?_⟩
      rw [a5]
      exact out_same R0 (.bl _) q
end
/-! in, not in, is -/
def flatD : D → Bool
  | .non => true
  | .bl _ => true
  | .int _ => true
  | .str _ => true
  | _ => false
def toV : D → V
  | .non => .non
  | .bl b => .bl b
  | .int i => .int i
  | .str s => .str s
  | _ => .non
def inD (x : D) (ys : List D) : Bool := ys.any fun y => eqV (toV y) (toV x)
theorem flat_to {K : PySem.W.Frag} {H : Hp} {β : List Addr} {x : V} {d : D} (h : VR K H β x d) (f : flatD d = true) : x = toV d ∧ flatV x = true := by
  cases h <;> first | (cases f; done) | exact ⟨rfl, rfl⟩
theorem flats_to {K : PySem.W.Frag} {H : Hp} {β : List Addr} : ∀ {xs : List V} {ds : List D}, VRs K H β xs ds → ds.all flatD = true → xs = ds.map toV ∧ xs.all flatV = true
  | _, _, .nil, _ => ⟨rfl, rfl⟩
  | _, _, .cons h r, f => by
    simp only [List.all_cons, Bool.and_eq_true] at f
    obtain ⟨a, b⟩ := flat_to h f.1
    obtain ⟨c, d⟩ := flats_to r f.2
    exact ⟨by rw [List.map_cons, ← a, ← c], by simp [b, d]⟩
def seqOf (S : Sto) : D → Option (List D)
  | .tup l => some l
  | .ref n => itemsAt S n
  | _ => none
theorem R.seq {K : PySem.W.Frag} {β : List Addr} {H : Hp} {S : Sto} (r : R K β H S) {y : V} {e : D} (h : VR K H β y e) {l : List D} (hs : seqOf S e = some l) : ∃ (p : Addr) (xs : List V), y = .ref p ∧ (SqL K H p xs ∨ SqT K H p xs) ∧ VRs K H β xs l := by
  cases h <;> first | (simp only [seqOf] at hs; cases hs; done) | skip
  · rename_i a xs ds hx rx
    simp only [seqOf] at hs
    cases hs
    exact ⟨a, xs, rfl, .inr hx, rx⟩
  · rename_i a n hn
    obtain ⟨xs, q, v⟩ := r.items hn hs
    exact ⟨a, xs, rfl, .inl q, v⟩
def inB (S : Sto) (x y : D) : Option Bool := match x, y with
  | .str c, .str z => if c.cps.size = 1 then some (decide (c.cps.getD 0 0 ∈ z.cps.toList)) else none
  | x, y => match seqOf S y with
    | some l => if flatD x = true ∧ l.all flatD = true then some (inD x l) else none
    | none => none
def oIn : O2 := fun x y S => match inB S x y with
  | some b => some (.bl b, S)
  | none => none
def oNin : O2 := fun x y S => match inB S x y with
  | some b => some (.bl (!b), S)
  | none => none
theorem inB_ok {K : PySem.W.Frag} {H : Hp} {β : List Addr} {S : Sto} (r : R K β H S) {x y : V} {d e : D} (h1 : VR K H β x d) (h2 : VR K H β y e) {b : Bool} (h : inB S d e = some b) :
    (∃ (c : Nat) (z : Str), x = .str ⟨#[c]⟩ ∧ y = .str z ∧ decide (c ∈ z.cps.toList) = b) ∨ ∃ (p : Addr) (xs : List V), y = .ref p ∧ (SqL K H p xs ∨ SqT K H p xs) ∧ flatV x = true ∧ xs.all flatV = true ∧ inV x xs = b := by
  have fin : ∀ l, seqOf S e = some l → flatD d = true ∧ l.all flatD = true → inD d l = b → ∃ (p : Addr) (xs : List V), y = .ref p ∧ (SqL K H p xs ∨ SqT K H p xs) ∧ flatV x = true ∧ xs.all flatV = true ∧ inV x xs = b := fun l hl f hb => by
    obtain ⟨p, xs, e1, e2, e3⟩ := r.seq h2 hl
    obtain ⟨a1, a2⟩ := flat_to h1 f.1
    obtain ⟨b1, b2⟩ := flats_to e3 f.2
    refine ⟨p, xs, e1, e2, a2, b2, ?_⟩
    rw [← hb, b1, a1]
    unfold inV inD
    rw [List.any_map]
    rfl
  have go : (match seqOf S e with
    | some l => if flatD d = true ∧ l.all flatD = true then some (inD d l) else none
    | none => none) = some b → ∃ (p : Addr) (xs : List V), y = .ref p ∧ (SqL K H p xs ∨ SqT K H p xs) ∧ flatV x = true ∧ xs.all flatV = true ∧ inV x xs = b := fun h => by
    cases hl : seqOf S e with
    | none => rw [hl] at h; cases h
    | some l =>
      simp only [hl] at h
      split at h
      · rename_i f
        exact fin l hl f (Option.some.inj h)
      · cases h
  by_cases hh : ∃ c z, d = .str c ∧ e = .str z
  · obtain ⟨c, z, rfl, rfl⟩ := hh
    cases h1
    cases h2
    simp only [inB] at h
    split at h
    · rename_i hc
      refine .inl ⟨c.cps.getD 0 0, z, ?_, rfl, Option.some.inj h⟩
      obtain ⟨⟨l⟩⟩ := c
      match l, hc with
      | [k], _ => rfl
    · cases h
  · refine .inr (go ?_)
    unfold inB at h
    split at h
    · rename_i c z
      exact absurd ⟨c, z, rfl, rfl⟩ hh
    · exact h
section
variable {X : Cx}
theorem or_in : OpR X (compareOp .In) (RO X.K oIn) := by
  refine OpR.to (OpR.or op_in_sign op_in_seq) ?_
  rintro x y H Q ⟨β, S, d, e, r, S', R0, h1, h2, h3, q⟩
  unfold oIn at h3
  cases h : inB S d e with
  | none => rw [h] at h3; cases h3
  | some b =>
    rw [h] at h3
    cases h3
    rcases inB_ok R0 h1 h2 h with ⟨c, z, e1, e2, e3⟩ | ⟨p, xs, e1, e2, e3, e4, e5⟩
    · refine .inl ⟨c, z, e1, e2, ?_⟩
      rw [e3]
      exact out_same R0 (.bl _) q
    · refine .inr ⟨p, xs, e1, e2, e3, e4, ?_⟩
      rw [e5]
      exact out_same R0 (.bl _) q
theorem or_nin : OpR X (compareOp .NotIn) (RO X.K oNin) := by
  refine OpR.to (OpR.or op_notIn_sign op_notIn_seq) ?_
  rintro x y H Q ⟨β, S, d, e, r, S', R0, h1, h2, h3, q⟩
  unfold oNin at h3
  cases h : inB S d e with
  | none => rw [h] at h3; cases h3
  | some b =>
    rw [h] at h3
    cases h3
    rcases inB_ok R0 h1 h2 h with ⟨c, z, e1, e2, e3⟩ | ⟨p, xs, e1, e2, e3, e4, e5⟩
    · refine .inl ⟨c, z, e1, e2, ?_⟩
      rw [e3]
      exact out_same R0 (.bl _) q
    · refine .inr ⟨p, xs, e1, e2, e3, e4, ?_⟩
      rw [e5]
      exact out_same R0 (.bl _) q
end
def isB : D → D → Option Bool
  | .non, .non => some true
  | .bl a, .bl b => some (decide (a = b))
  | .int _, .non => some false
  | .bl _, .non => some false
  | .str _, .non => some false
  | .tup _, .non => some false
  | .ref _, .non => some false
  | _, _ => none
def oIs : O2 := fun x y S => match isB x y with
  | some b => some (.bl b, S)
  | none => none
def oIsn : O2 := fun x y S => match isB x y with
  | some b => some (.bl (!b), S)
  | none => none
theorem isB_ok {K : PySem.W.Frag} {H : Hp} {β : List Addr} {x y : V} {d e : D} (h1 : VR K H β x d) (h2 : VR K H β y e) {b : Bool} (h : isB d e = some b) : (y = .non ∧ decide (x = .non) = b) ∨ ∃ k j, x = .bl k ∧ y = .bl j ∧ decide (k = j) = b := by
  cases h1 <;> cases h2 <;> first | (simp only [isB] at h; cases h; done) | skip
  all_goals (simp only [isB] at h; cases h)
  all_goals first | exact .inl ⟨rfl, decide_eq_true rfl⟩ | exact .inl ⟨rfl, decide_eq_false (fun q => by cases q)⟩ | exact .inr ⟨_, _, rfl, rfl, rfl⟩
section
variable {X : Cx}
theorem or_is : OpR X (compareOp .Is) (RO X.K oIs) := by
  refine OpR.to (OpR.or op_isN op_is_bl) ?_
  rintro x y H Q ⟨β, S, d, e, r, S', R0, h1, h2, h3, q⟩
  unfold oIs at h3
  cases h : isB d e with
  | none => rw [h] at h3; cases h3
  | some b =>
    rw [h] at h3
    cases h3
    rcases isB_ok h1 h2 h with ⟨e1, e2⟩ | ⟨k, j, e1, e2, e3⟩
    · refine .inl ⟨e1, ?_⟩
      rw [e2]
      exact out_same R0 (.bl _) q
    · refine .inr ⟨k, j, e1, e2, ?_⟩
      rw [e3]
      exact out_same R0 (.bl _) q
theorem or_isn : OpR X (compareOp .IsNot) (RO X.K oIsn) := by
  refine OpR.to (OpR.or op_notN op_isnot_bl) ?_
  rintro x y H Q ⟨β, S, d, e, r, S', R0, h1, h2, h3, q⟩
  unfold oIsn at h3
  cases h : isB d e with
  | none => rw [h] at h3; cases h3
  | some b =>
    rw [h] at h3
    cases h3
    rcases isB_ok h1 h2 h with ⟨e1, e2⟩ | ⟨k, j, e1, e2, e3⟩
    · refine .inl ⟨e1, ?_⟩
      rw [e2]
      exact out_same R0 (.bl _) q
    · refine .inr ⟨k, j, e1, e2, ?_⟩
      rw [e3]
      exact out_same R0 (.bl _) q
end
end MP
namespace MP
open PySem L2

/-! ### items and slices -/
def oIdx : O2 := fun x y S => match x, y with
  | .str s, .int i => if s.length ≤ sizeLine then match atI s.cps.toList i with
      | some c => some (.str ⟨#[c]⟩, S)
      | none => none
    else none
  | x, .int i => match seqOf S x with
    | some l => match atI l i with
      | some d => some (d, S)
      | none => none
    | none => none
  | _, _ => none
theorem VRs.atI {K : PySem.W.Frag} {H : Hp} {β : List Addr} {vs : List V} {ds : List D} (h : VRs K H β vs ds) {i : Int} {d : D} (e : L2.atI ds i = some d) : ∃ v : V, L2.atI vs i = some v ∧ VR K H β v d := by
  unfold L2.atI at e ⊢
  rw [h.length]
  cases h1 : ixN ds.length i with
  | none => rw [h1] at e; cases e
  | some j =>
    rw [h1] at e
    exact h.get e
section
variable {X : Cx}
theorem IxR.to {r u : R2} (h : IxR X r) (w : ∀ x y H Q, u x y H Q → r x y H Q) : IxR X u := fun a b pins s σ H x y v v' Q I rx ry q hs => h a b pins s σ H x y v v' Q I rx ry (w _ _ _ _ q) hs
theorem ix_all : IxR X (RO X.K oIdx) := by
  refine IxR.to (ix_seq (X := X)) ?_
  rintro x y H Q ⟨β, S, d, e, r, S', R0, h1, h2, h3, q⟩
  by_cases hs : ∃ s i, d = .str s ∧ e = .int i
  · obtain ⟨s, i, rfl, rfl⟩ := hs
    cases h1
    cases h2
    simp only [oIdx] at h3
    split at h3
    · rename_i z
      cases h4 : atI s.cps.toList i with
      | none => rw [h4] at h3; cases h3
      | some c =>
        rw [h4] at h3
        cases h3
        exact .inr (.inr ⟨s, i, c, rfl, rfl, z, h4, out_same R0 (.str _) q⟩)
    · cases h3
  · cases h2 <;> first | (cases h1 <;> (simp only [oIdx] at h3; cases h3); done) | skip
    rename_i i
    have h3' : (match seqOf S d with
      | some l => match atI l i with
        | some d => some (d, S)
        | none => none
      | none => none) = some (r, S') := by
      cases h1 <;> first | exact h3 | exact absurd ⟨_, _, rfl, rfl⟩ hs
    cases hl : seqOf S d with
    | none => rw [hl] at h3'; cases h3'
    | some l =>
      simp only [hl] at h3'
      cases h4 : atI l i with
      | none => rw [h4] at h3'; cases h3'
      | some dd =>
        rw [h4] at h3'
        cases h3'
        obtain ⟨p, xs, e1, e2, e3⟩ := R0.seq h1 hl
        obtain ⟨v, e4, e5⟩ := e3.atI h4
        rcases e2 with e2 | e2
        · exact .inl ⟨p, xs, i, v, e1, rfl, e2, e4, out_same R0 e5 q⟩
        · exact .inr (.inl ⟨p, xs, i, v, e1, rfl, e2, e4, out_same R0 e5 q⟩)
end
def cutD (l : List D) (lo hi : Option Int) : List D := (l.drop (HT.sIx l.length 0 lo)).take (HT.sIx l.length l.length hi - HT.sIx l.length 0 lo)
theorem VRs.cut {K : PySem.W.Frag} {H : Hp} {β : List Addr} {vs : List V} {ds : List D} (h : VRs K H β vs ds) (lo hi : Option Int) : VRs K H β (cutV vs lo hi) (cutD ds lo hi) := by
  unfold cutV cutD
  rw [h.length]
  exact (h.drop _).take _
abbrev OS := D → Option Int → Option Int → Sto → Option (D × Sto)
def oSl : OS := fun x lo hi S => match x with
  | .str s => gI (decide (s.length ≤ sizeLine)) (.str (cutS s lo hi)) S
  | .tup l => some (.tup (cutD l lo hi), S)
  | .ref n => match itemsAt S n with
    | some l => newL (cutD l lo hi) S
    | none => none
  | _ => none
abbrev FO := En → Sto → Option (Option Int × Sto)
def TO' (K : PySem.W.Frag) (f : FO) : TO := fun σ H Q => ∃ β env S d S', R K β H S ∧ ER K β H σ env ∧ f env S = some (d, S') ∧
  ∀ β' H', Le β β' → Ext K H H' → R K β' H' S' → Q d H'
def fPart (fa : FE) : FO := fun env S => match fa env S with
  | some (.int i, S1) => some (some i, S1)
  | _ => none
def fNo : FO := fun _ S => some (none, S)
def fSl (fa : FE) (fl fh : FO) : FE := fun env S => match fa env S with
  | some (d, S1) => match fl env S1 with
    | some (l, S2) => match fh env S2 with
      | some (h, S3) => oSl d l h S3
      | none => none
    | none => none
  | none => none
section
variable {X : Cx}
theorem po_to {e : Option Expr} {t u : TO} (h : PO X e t) (w : ∀ σ H Q, u σ H Q → t σ H Q) : PO X e u := ⟨fun pins s σ H Q I q => h.run pins s σ H Q I (w _ _ _ q)⟩
theorem T_part {fa : FE} {e : Expr} (h : PE X e (T X.K fa)) : PO X (some e) (TO' X.K (fPart fa)) := po_to (po_some h) fun σ H Q ⟨β, env, S, d, S', r, er, h1, q⟩ => by
  unfold fPart at h1
  cases h2 : fa env S with
  | none => rw [h2] at h1; cases h1
  | some p =>
    obtain ⟨z, S1⟩ := p
    rw [h2] at h1
    cases z <;> first | (cases h1; done) | skip
    simp only at h1
    cases h1
    refine ⟨β, env, S, _, _, r, er, h2, fun β1 v H1 l x r1 vr => ?_⟩
    cases vr
    exact ⟨_, rfl, q β1 H1 l x r1⟩
theorem T_noPart : PO X none (TO' X.K fNo) := po_to po_none fun σ H Q ⟨β, env, S, d, S', r, er, h1, q⟩ => by
  cases h1
  exact q β H (Le.refl _) (Ext.refl _) r
def RS (K : PySem.W.Frag) (g : OS) : V → Option Int → Option Int → Hp → VK → Prop := fun x lo hi H Q => ∃ β S d r S', R K β H S ∧ VR K H β x d ∧ g d lo hi S = some (r, S') ∧
  ∀ β' v H', Le β β' → Ext K H H' → R K β' H' S' → VR K H' β' v r → Q v H'
theorem SlR.to {r u : V → Option Int → Option Int → Hp → VK → Prop} (h : SlR X r) (w : ∀ x a b H Q, u x a b H Q → r x a b H Q) : SlR X u := fun pins s σ H x v vl vu lo hi sl Q I rx hs pl pu q => h pins s σ H x v vl vu lo hi sl Q I rx hs pl pu (w _ _ _ _ _ q)
theorem sl_all : SlR X (RS X.K oSl) := by
  refine SlR.to (SlR.or sl_str (SlR.or sl_tupA sl_list)) ?_
  rintro x lo hi H Q ⟨β, S, d, r, S', R0, h1, h3, q⟩
  cases h1 <;> first | (simp only [oSl] at h3; cases h3; done) | skip
  · rename_i s
    simp only [oSl] at h3
    obtain ⟨c, e1, e2⟩ := gI_ok h3
    subst e1 e2
    exact .inl ⟨s, rfl, by simpa using c, out_same R0 (.str _) q⟩
  · rename_i a xs ds hx rx
    simp only [oSl] at h3
    cases h3
    refine .inr (.inl ⟨a, xs, rfl, hx, fun z => ?_, fun _ p hp => out_tup R0 (rx.cut lo hi) hp q⟩)
    refine out_same R0 (.tup hx ?_) q
    have e : cutV xs lo hi = xs := by
      unfold cutV
      rw [z.1, z.2, List.drop_zero, Nat.sub_zero, List.take_length]
    have := rx.cut lo hi
    rw [e] at this
    exact this
  · rename_i a n hn
    simp only [oSl] at h3
    cases h4 : itemsAt S n with
    | none => rw [h4] at h3; cases h3
    | some l =>
      simp only [h4] at h3
      obtain ⟨z, e1, e2⟩ := newL_ok h3
      subst e1 e2
      obtain ⟨xs, e2, e3⟩ := R0.items hn h4
      exact .inr (.inr ⟨a, xs, rfl, e2, fun p hp => out_lst R0 (e3.cut lo hi) hp q⟩)
theorem T_sl {fa : FE} {fl fh : FO} {e : Expr} {lo hi : Option Expr} {pos p2 : Pos} (he : PE X e (T X.K fa)) (hl : PO X lo (TO' X.K fl)) (hh : PO X hi (TO' X.K fh)) :
    PE X (.Subscript e (.Slice lo hi none p2) pos) (T X.K (fSl fa fl fh)) := PE.to (pe_slice sl_all he hl hh) fun σ H Q ⟨β, env, S, d, S', r, er, h, q⟩ => by
  unfold fSl at h
  cases h1 : fa env S with
  | none => rw [h1] at h; cases h
  | some p1 =>
    obtain ⟨z1, S1⟩ := p1
    simp only [h1] at h
    cases h2 : fl env S1 with
    | none => rw [h2] at h; cases h
    | some p2 =>
      obtain ⟨z2, S2⟩ := p2
      simp only [h2] at h
      cases h3 : fh env S2 with
      | none => rw [h3] at h; cases h
      | some p3 =>
        obtain ⟨z3, S3⟩ := p3
        simp only [h3] at h
        refine ⟨β, env, S, z1, S1, r, er, h1, fun β1 v1 H1 l1 x1 r1 vr1 => ?_⟩
        refine ⟨β1, env, S1, z2, S2, r1, er.mono x1 l1, h2, fun β2 H2 l2 x2 r2 => ?_⟩
        refine ⟨β2, env, S2, z3, S3, r2, er.mono (x1.trans x2) (l1.trans l2), h3, fun β3 H3 l3 x3 r3 => ?_⟩
        exact ⟨β3, S3, z1, d, S', r3, vr1.mono (x2.trans x3) (l2.trans l3), h, fun β4 v4 H4 l4 x4 r4 vr4 => q β4 v4 H4 (((l1.trans l2).trans l3).trans l4) (((x1.trans x2).trans x3).trans x4) r4 vr4⟩
end

/-! ### calls of built-ins -/
inductive Ty | non | bl | int | str | tup | lst | dct
def Ty.nm : Ty → String
  | .non => "NoneType" | .bl => "bool" | .int => "int" | .str => "str" | .tup => "tuple" | .lst => "list" | .dct => "dict"
def Ty.isi : Ty → Ty → Bool
  | .non, .non => true | .bl, .bl => true | .bl, .int => true | .int, .int => true | .str, .str => true | .tup, .tup => true | .lst, .lst => true | .dct, .dct => true
  | _, _ => false
theorem isi_ok : ∀ a b : Ty, kitB a.nm b.nm = some (a.isi b) := by
  intro a b
  cases a <;> cases b <;> decide +kernel
def tyD (S : Sto) : D → Option Ty
  | .non => some .non
  | .bl _ => some .bl
  | .int _ => some .int
  | .str _ => some .str
  | .tup _ => some .tup
  | .ref n => match S[n]? with
    | some .dct => some .dct
    | some _ => some .lst
    | none => none
theorem R.ty {K : PySem.W.Frag} {β : List Addr} {H : Hp} {S : Sto} (r : R K β H S) {v : V} {d : D} (h : VR K H β v d) {t : Ty} (e : tyD S d = some t) : TyX K H v (.type t.nm) := by
  cases h with
  | non => cases e; exact .base .non
  | bl b => cases e; exact .base (.bl b)
  | int i => cases e; exact .base (.int i)
  | str s => cases e; exact .base (.str s)
  | tup h _ =>
    cases e
    rcases h with (h | ⟨o, h⟩) | ⟨o, its, n, h, c, _⟩
    · exact .base (.tup h)
    · exact .fTuple h
    · exact .kTuple h c
  | ref hn =>
    rename_i a n
    simp only [tyD] at e
    cases h1 : S[n]? with
    | none => rw [h1] at e; cases e
    | some c =>
      rw [h1] at e
      have q := r.cell n a c hn h1
      cases c with
      | lst l =>
        cases e
        obtain ⟨xs, e, _⟩ := q
        exact .base (.lst e)
      | fro l =>
        cases e
        obtain ⟨xs, e, _⟩ := q
        rcases e with ⟨o, e⟩ | e
        · exact .base (.frz e)
        · rcases e (fun _ => none) with z | ⟨o, its, n, h, c, _⟩
          · rcases z with z | ⟨o, z⟩ <;> cases z
          · exact .kList h c
      | dct =>
        cases e
        exact .base (.dK q)
def intsOf : List D → Option (List Int)
  | [] => some []
  | .int i :: r => match intsOf r with
    | some l => some (i :: l)
    | none => none
  | _ => none
def boolsOf : List D → Option (List Bool)
  | [] => some []
  | .bl i :: r => match boolsOf r with
    | some l => some (i :: l)
    | none => none
  | _ => none
theorem ints_ok {K : PySem.W.Frag} {H : Hp} {β : List Addr} : ∀ {vs : List V} {ds : List D}, VRs K H β vs ds → ∀ {ns : List Int}, intsOf ds = some ns → vs = ns.map V.int
  | _, _, .nil, ns, e => by
    cases e
    rfl
  | _, _, .cons (ds := ds) h r, ns, e => by
    cases h <;> first | (simp only [intsOf] at e; cases e; done) | skip
    simp only [intsOf] at e
    cases h1 : intsOf ds with
    | none => rw [h1] at e; cases e
    | some l =>
      rw [h1] at e
      cases e
      rw [ints_ok r h1, List.map_cons]
theorem bools_ok {K : PySem.W.Frag} {H : Hp} {β : List Addr} : ∀ {vs : List V} {ds : List D}, VRs K H β vs ds → ∀ {ns : List Bool}, boolsOf ds = some ns → vs = ns.map V.bl
  | _, _, .nil, ns, e => by
    cases e
    rfl
  | _, _, .cons (ds := ds) h r, ns, e => by
    cases h <;> first | (simp only [boolsOf] at e; cases e; done) | skip
    simp only [boolsOf] at e
    cases h1 : boolsOf ds with
    | none => rw [h1] at e; cases e
    | some l =>
      rw [h1] at e
      cases e
      rw [bools_ok r h1, List.map_cons]

inductive Bn | int | abs | len | divmod | max | min | sum | all | any | list | tuple | isi (t : Ty) | repr | str
def bInt : ON := fun ds S => match ds with
  | [.int i] => some (.int i, S)
  | [.bl b] => some (.int (if b then 1 else 0), S)
  | _ => none
def bAbs : ON := fun ds S => match ds with
  | [.int i] => some (.int (if i < 0 then -i else i), S)
  | _ => none
def bStr : ON := fun ds S => match ds with
  | [.int i] => gI (decide (i.natAbs.log2 < 1920)) (.str (toString i)) S
  | [.str s] => some (.str s, S)
  | _ => none
def bLen : ON := fun ds S => match ds with
  | [.str s] => gI (decide (s.length ≤ sizeLine)) (.int s.length) S
  | [d] => match seqOf S d with
    | some l => some (.int l.length, S)
    | none => none
  | _ => none
def bDivmod : ON := fun ds S => match ds with
  | [.int i, .int j] => gI (decide (0 < j ∧ j.natAbs < 2 ^ 4096)) (.tup [.int (i / j), .int (i % j)]) S
  | _ => none
def greatest : List Int → Int
  | [] => 0
  | [x] => x
  | x :: y :: r => if greatest (y :: r) < x then x else greatest (y :: r)
def least : List Int → Int
  | [] => 0
  | [x] => x
  | x :: y :: r => if x < least (y :: r) then x else least (y :: r)
theorem greatest_ok : ∀ (l : List Int) (m : Int), m ∈ l → (∀ y ∈ l, y ≤ m) → greatest l = m
  | [], _, h, _ => by cases h
  | [x], m, h, _ => by
    rw [List.mem_singleton.mp h]
    rfl
  | x :: y :: r, m, h, k => by
    have up : ∀ l : List Int, l ≠ [] → greatest l ∈ l := by
      intro l
      induction l with
      | nil => intro z; exact absurd rfl z
      | cons a l ih =>
        intro _
        cases l with
        | nil => simp [greatest]
        | cons b l =>
          unfold greatest
          split
          · exact List.mem_cons_self
          · exact List.mem_cons_of_mem _ (ih (by simp))
    unfold greatest
    rcases List.mem_cons.mp h with rfl | h
    · have := k _ (List.mem_cons_of_mem m (up (y :: r) (by simp)))
      split <;> omega
    · have e := greatest_ok (y :: r) m h fun z hz => k z (List.mem_cons_of_mem _ hz)
      rw [e]
      have := k x List.mem_cons_self
      split <;> omega
theorem least_ok : ∀ (l : List Int) (m : Int), m ∈ l → (∀ y ∈ l, m ≤ y) → least l = m
  | [], _, h, _ => by cases h
  | [x], m, h, _ => by
    rw [List.mem_singleton.mp h]
    rfl
  | x :: y :: r, m, h, k => by
    have up : ∀ l : List Int, l ≠ [] → least l ∈ l := by
      intro l
      induction l with
      | nil => intro z; exact absurd rfl z
      | cons a l ih =>
        intro _
        cases l with
        | nil => simp [least]
        | cons b l =>
          unfold least
          split
          · exact List.mem_cons_self
          · exact List.mem_cons_of_mem _ (ih (by simp))
    unfold least
    rcases List.mem_cons.mp h with rfl | h
    · have := k _ (List.mem_cons_of_mem m (up (y :: r) (by simp)))
      split <;> omega
    · have e := least_ok (y :: r) m h fun z hz => k z (List.mem_cons_of_mem _ hz)
      rw [e]
      have := k x List.mem_cons_self
      split <;> omega
def bMax : ON := fun ds S => match ds with
  | [.int i, .int j] => some (.int (if j > i then j else i), S)
  | [.ref n] => match itemsAt S n with
    | some l => match intsOf l with
      | some ns => gI (!ns.isEmpty) (.int (greatest ns)) S
      | none => none
    | none => none
  | _ => none
def bMin : ON := fun ds S => match ds with
  | [.int i, .int j] => some (.int (if j < i then j else i), S)
  | [.ref n] => match itemsAt S n with
    | some l => match intsOf l with
      | some ns => gI (!ns.isEmpty) (.int (least ns)) S
      | none => none
    | none => none
  | _ => none
def bSum : ON := fun ds S => match ds with
  | [.ref n] => match itemsAt S n with
    | some l => match intsOf l with
      | some ns => some (.int ns.sum, S)
      | none => none
    | none => none
  | _ => none
def bAll : ON := fun ds S => match ds with
  | [.ref n] => match itemsAt S n with
    | some l => match boolsOf l with
      | some ns => some (.bl (ns.all id), S)
      | none => none
    | none => none
  | _ => none
def bAny : ON := fun ds S => match ds with
  | [.ref n] => match itemsAt S n with
    | some l => match boolsOf l with
      | some ns => some (.bl (ns.any id), S)
      | none => none
    | none => none
  | _ => none
def bList : ON := fun ds S => match ds with
  | [d] => match seqOf S d with
    | some l => newL l S
    | none => none
  | _ => none
def bTuple : ON := fun ds S => match ds with
  | [d] => match seqOf S d with
    | some l => some (.tup l, S)
    | none => none
  | _ => none
def bIsi (t : Ty) : ON := fun ds S => match ds with
  | [d] => match tyD S d with
    | some a => some (.bl (a.isi t), S)
    | none => none
  | _ => none
def reprOk (p : PyData) : Prop := p.showable = true ∧ p.shown.length ≤ sizeLine ∧ p.depth ≤ 60
open Classical in
noncomputable def bRepr : ON := fun ds S => match ds with
  | [d] => match py S d with
    | some p => if reprOk p then some (.str p.shown, S) else none
    | none => none
  | _ => none
end MP
namespace MP
open PySem L2
section
variable {X : Cx}
mutual
theorem dp_noDict {K : PySem.W.Frag} {H : Hp} : ∀ {v : V} {p : PyData}, Dp K H v p → p.hasDict = false
  | _, _, .non => by simp only [PyData.hasDict]
  | _, _, .bl _ => by simp only [PyData.hasDict]
  | _, _, .int _ => by simp only [PyData.hasDict]
  | _, _, .str _ => by simp only [PyData.hasDict]
  | _, _, .lst _ a => by simp only [PyData.hasDict]; exact dps_noDict a
  | _, _, .tup _ a => by simp only [PyData.hasDict]; exact dps_noDict a
theorem dps_noDict {K : PySem.W.Frag} {H : Hp} : ∀ {v : List V} {p : List PyData}, DpAll K H v p → PyData.hasDictAll p = false
  | _, _, .nil => by simp only [PyData.hasDictAll]
  | _, _, .cons a b => by simp only [PyData.hasDictAll, dp_noDict a, dps_noDict b, Bool.or_false]
end
theorem one_of {K : PySem.W.Frag} {H : Hp} {β : List Addr} {vs : List V} {d : D} (h : VRs K H β vs [d]) : ∃ v : V, vs = [v] ∧ VR K H β v d := by
  cases h with
  | cons a r =>
    cases r
    exact ⟨_, rfl, a⟩
theorem two_of {K : PySem.W.Frag} {H : Hp} {β : List Addr} {vs : List V} {d e : D} (h : VRs K H β vs [d, e]) : ∃ v u : V, vs = [v, u] ∧ VR K H β v d ∧ VR K H β u e := by
  cases h with
  | cons a r =>
    cases r with
    | cons b r =>
      cases r
      exact ⟨_, _, rfl, a, b⟩
theorem cb_int : CallR X (.type "int") (RON X.K bInt) := CallR.to call_int1 fun xs H Q ⟨β, S, ds, r, S', R0, h, e, q⟩ => by
  unfold bInt at e
  split at e
  · cases e
    obtain ⟨v, rfl, hv⟩ := one_of h
    cases hv
    exact .inl ⟨_, rfl, out_same R0 (.int _) q⟩
  · cases e
    obtain ⟨v, rfl, hv⟩ := one_of h
    cases hv
    exact .inr ⟨_, rfl, out_same R0 (.int _) q⟩
  · cases e
theorem cb_str : CallR X (.type "str") (RON X.K bStr) := CallR.to (CallR.or call_str_int SkE.call_str_str) fun xs H Q ⟨β, S, ds, r, S', R0, h, e, q⟩ => by
  unfold bStr at e
  split at e
  · obtain ⟨c, e1, e2⟩ := gI_ok e
    subst e1 e2
    obtain ⟨v, rfl, hv⟩ := one_of h
    cases hv
    exact .inl ⟨_, rfl, of_decide_eq_true c, out_same R0 (.str _) q⟩
  · cases e
    obtain ⟨v, rfl, hv⟩ := one_of h
    cases hv
    exact .inr ⟨_, rfl, out_same R0 (.str _) q⟩
  · cases e
theorem cb_abs : CallR X (.builtin "abs") (RON X.K bAbs) := CallR.to call_abs fun xs H Q ⟨β, S, ds, r, S', R0, h, e, q⟩ => by
  unfold bAbs at e
  split at e
  · cases e
    obtain ⟨v, rfl, hv⟩ := one_of h
    cases hv
    exact ⟨_, rfl, out_same R0 (.int _) q⟩
  · cases e
theorem cb_len : CallR X (.builtin "len") (RON X.K bLen) := CallR.to call_len fun xs H Q ⟨β, S, ds, r, S', R0, h, e, q⟩ => by
  unfold bLen at e
  split at e
  · obtain ⟨c, e1, e2⟩ := gI_ok e
    subst e1 e2
    obtain ⟨v, rfl, hv⟩ := one_of h
    cases hv
    rename_i s _
    exact ⟨.str s, s.length, rfl, ⟨by simpa using c, rfl⟩, out_same R0 (.int _) q⟩
  · rename_i d _
    obtain ⟨v, rfl, hv⟩ := one_of h
    cases hl : seqOf S d with
    | none => rw [hl] at e; cases e
    | some l =>
      rw [hl] at e
      cases e
      obtain ⟨p, xs, rfl, e2, e3⟩ := R0.seq hv hl
      refine ⟨_, l.length, rfl, ?_, out_same R0 (.int _) q⟩
      rcases e2 with e2 | e2
      · exact .inl ⟨xs, e2, e3.length.symm⟩
      · exact .inr ⟨xs, e2, e3.length.symm⟩
  · cases e
theorem cb_divmod : CallR X (.builtin "divmod") (RON X.K bDivmod) := CallR.to call_divmodW fun xs H Q ⟨β, S, ds, r, S', R0, h, e, q⟩ => by
  unfold bDivmod at e
  split at e
  · obtain ⟨c, e1, e2⟩ := gI_ok e
    subst e1 e2
    obtain ⟨v, u, rfl, h1, h2⟩ := two_of h
    cases h1
    cases h2
    simp only [decide_eq_true_eq] at c
    refine ⟨_, _, rfl, ⟨c.1, PyProof.noPylong_of_log2 (Nat.lt_trans (log2_lt c.2 (by decide)) (by decide))⟩, fun p hp => out_tup R0 (.cons (.int _) (.cons (.int _) .nil)) hp q⟩
  · cases e
theorem cb_max (hc : X.calm = true) : CallR X (.builtin "max") (RON X.K bMax) := CallR.to (CallR.or (call_max2 hc) (cr_max hc)) fun xs H Q ⟨β, S, ds, r, S', R0, h, e, q⟩ => by
  unfold bMax at e
  split at e
  · cases e
    obtain ⟨v, u, rfl, h1, h2⟩ := two_of h
    cases h1
    cases h2
    exact .inl ⟨_, _, rfl, out_same R0 (.int _) q⟩
  · rename_i n
    obtain ⟨v, rfl, hv⟩ := one_of h
    cases hv with
    | ref hn =>
      cases h1 : itemsAt S n with
      | none => rw [h1] at e; cases e
      | some l =>
        simp only [h1] at e
        cases h2 : intsOf l with
        | none => rw [h2] at e; cases e
        | some ns =>
          simp only [h2] at e
          obtain ⟨c, e1, e2⟩ := gI_ok e
          subst e1 e2
          obtain ⟨ys, q1, q2⟩ := R0.items hn h1
          rw [ints_ok q2 h2] at q1
          refine .inr ⟨_, ns, rfl, q1, ?_, fun m h1 h2 => ?_⟩
          · cases ns with
            | nil => cases c
            | cons _ _ => simp
          · rw [greatest_ok ns m h1 h2] at q
            exact out_same R0 (.int _) q
  · cases e
theorem cb_min (hc : X.calm = true) : CallR X (.builtin "min") (RON X.K bMin) := CallR.to (CallR.or (call_min2 hc) (cr_min hc)) fun xs H Q ⟨β, S, ds, r, S', R0, h, e, q⟩ => by
  unfold bMin at e
  split at e
  · cases e
    obtain ⟨v, u, rfl, h1, h2⟩ := two_of h
    cases h1
    cases h2
    exact .inl ⟨_, _, rfl, out_same R0 (.int _) q⟩
  · rename_i n
    obtain ⟨v, rfl, hv⟩ := one_of h
    cases hv with
    | ref hn =>
      cases h1 : itemsAt S n with
      | none => rw [h1] at e; cases e
      | some l =>
        simp only [h1] at e
        cases h2 : intsOf l with
        | none => rw [h2] at e; cases e
        | some ns =>
          simp only [h2] at e
          obtain ⟨c, e1, e2⟩ := gI_ok e
          subst e1 e2
          obtain ⟨ys, q1, q2⟩ := R0.items hn h1
          rw [ints_ok q2 h2] at q1
          refine .inr ⟨_, ns, rfl, q1, ?_, fun m h1 h2 => ?_⟩
          · cases ns with
            | nil => cases c
            | cons _ _ => simp
          · rw [least_ok ns m h1 h2] at q
            exact out_same R0 (.int _) q
  · cases e
theorem cb_sum (hc : X.calm = true) : CallR X (.builtin "sum") (RON X.K bSum) := CallR.to (cr_sum hc) fun xs H Q ⟨β, S, ds, r, S', R0, h, e, q⟩ => by
  unfold bSum at e
  split at e
  · rename_i n
    obtain ⟨v, rfl, hv⟩ := one_of h
    cases hv with
    | ref hn =>
      cases h1 : itemsAt S n with
      | none => rw [h1] at e; cases e
      | some l =>
        simp only [h1] at e
        cases h2 : intsOf l with
        | none => rw [h2] at e; cases e
        | some ns =>
          simp only [h2] at e
          cases e
          obtain ⟨ys, q1, q2⟩ := R0.items hn h1
          rw [ints_ok q2 h2] at q1
          exact ⟨_, ns, rfl, q1, out_same R0 (.int _) q⟩
  · cases e
theorem cb_all (hc : X.calm = true) : CallR X (.builtin "all") (RON X.K bAll) := CallR.to (cr_all hc) fun xs H Q ⟨β, S, ds, r, S', R0, h, e, q⟩ => by
  unfold bAll at e
  split at e
  · rename_i n
    obtain ⟨v, rfl, hv⟩ := one_of h
    cases hv with
    | ref hn =>
      cases h1 : itemsAt S n with
      | none => rw [h1] at e; cases e
      | some l =>
        simp only [h1] at e
        cases h2 : boolsOf l with
        | none => rw [h2] at e; cases e
        | some ns =>
          simp only [h2] at e
          cases e
          obtain ⟨ys, q1, q2⟩ := R0.items hn h1
          rw [bools_ok q2 h2] at q1
          exact ⟨_, ns, rfl, q1, out_same R0 (.bl _) q⟩
  · cases e
theorem cb_any (hc : X.calm = true) : CallR X (.builtin "any") (RON X.K bAny) := CallR.to (cr_any hc) fun xs H Q ⟨β, S, ds, r, S', R0, h, e, q⟩ => by
  unfold bAny at e
  split at e
  · rename_i n
    obtain ⟨v, rfl, hv⟩ := one_of h
    cases hv with
    | ref hn =>
      cases h1 : itemsAt S n with
      | none => rw [h1] at e; cases e
      | some l =>
        simp only [h1] at e
        cases h2 : boolsOf l with
        | none => rw [h2] at e; cases e
        | some ns =>
          simp only [h2] at e
          cases e
          obtain ⟨ys, q1, q2⟩ := R0.items hn h1
          rw [bools_ok q2 h2] at q1
          exact ⟨_, ns, rfl, q1, out_same R0 (.bl _) q⟩
  · cases e
theorem cb_list : CallR X (.type "list") (RON X.K bList) := CallR.to call_list_of fun xs H Q ⟨β, S, ds, r, S', R0, h, e, q⟩ => by
  unfold bList at e
  split at e
  · rename_i d
    obtain ⟨v, rfl, hv⟩ := one_of h
    cases hl : seqOf S d with
    | none => rw [hl] at e; cases e
    | some l =>
      simp only [hl] at e
      obtain ⟨z, e1, e2⟩ := newL_ok e
      subst e1 e2
      obtain ⟨p, xs, rfl, e2, e3⟩ := R0.seq hv hl
      exact ⟨p, xs, rfl, e2, fun l hl => out_lst R0 e3 hl q⟩
  · cases e
theorem cb_tuple : CallR X (.type "tuple") (RON X.K bTuple) := CallR.to call_tuple_of fun xs H Q ⟨β, S, ds, r, S', R0, h, e, q⟩ => by
  unfold bTuple at e
  split at e
  · rename_i d
    obtain ⟨v, rfl, hv⟩ := one_of h
    cases hl : seqOf S d with
    | none => rw [hl] at e; cases e
    | some l =>
      simp only [hl] at e
      cases e
      obtain ⟨p, xs, rfl, e2, e3⟩ := R0.seq hv hl
      refine ⟨p, xs, rfl, ?_⟩
      rcases e2 with e2 | e2
      · exact .inl ⟨e2, fun l hl => out_tup R0 e3 hl q⟩
      · exact .inr ⟨e2, out_same R0 (.tup e2 e3) q⟩
  · cases e
/-- the second argument is a built-in class by its name -/
theorem cb_isi (t : Ty) : CallR X (.builtin "isinstance") (fun xs H Q => ∃ x, xs = [x, .ty t.nm] ∧ RON X.K (bIsi t) [x] H Q) := CallR.to call_isi fun xs H Q ⟨x, e0, β, S, ds, r, S', R0, h, e, q⟩ => by
  unfold bIsi at e
  split at e
  · rename_i d
    obtain ⟨v, e1, hv⟩ := one_of h
    cases e1
    cases ht : tyD S d with
    | none => rw [ht] at e; cases e
    | some a =>
      simp only [ht] at e
      cases e
      exact ⟨x, .ty t.nm, _, _, _, e0, .ty t.nm, R0.ty hv ht, kit_ty (isi_ok a t), out_same R0 (.bl _) q⟩
  · cases e
theorem cb_repr (hg : X.A.guards = some []) (hu : X.A.units + 64 < cLine) : CallR X (.builtin "repr") (RON X.K bRepr) := fun pins s σ H xs us Q I rx ⟨β, S, ds, r, S', R0, h, e, q⟩ => by
  unfold bRepr at e
  split at e
  · rename_i d
    obtain ⟨v, rfl, hv⟩ := one_of h
    cases hp : py S d with
    | none => rw [hp] at e; cases e
    | some p =>
      simp only [hp] at e
      split at e
      · rename_i ok
        cases e
        obtain ⟨u, rfl, ru⟩ := vals1 rx
        have dp := R0.dp hv hp
        obtain ⟨ok1, ok2, ok3⟩ := ok
        cases dp with
        | non =>
          cases (show u = Value.none from ru)
          refine PySem.P.repr_of_none ⟨.str "None", H, I.tok _, ⟨_, rfl⟩, ?_⟩
          have := out_same R0 (.str _) q
          rw [PyData.shown_none] at this
          exact this
        | bl b =>
          cases (show u = Value.bool b from ru)
          refine PySem.P.repr_of_bool ⟨.str _, H, I.tok _, ⟨_, rfl⟩, ?_⟩
          have := out_same R0 (.str _) q
          rw [PyData.shown_bool] at this
          exact this
        | int i =>
          obtain ⟨t, rfl⟩ := (show ∃ t, u = Value.int i t from ru)
          refine PySem.P.repr_of_int (by simpa [PyData.showable] using ok1) ⟨.str _, H, I.tok _, ⟨_, rfl⟩, ?_⟩
          have := out_same R0 (.str _) q
          rw [PyData.shown_int] at this
          exact this
        | str x =>
          obtain ⟨t, rfl⟩ := (show ∃ t, u = Value.str x t from ru)
          refine PySem.P.repr_of_str ⟨.str _, H, I.tok _, ⟨_, rfl⟩, ?_⟩ (by rw [PyData.shown_str] at ok2; exact ok2)
          have := out_same R0 (.str _) q
          rw [PyData.shown_str] at this
          exact this
        | lst a b =>
          obtain ⟨as, rd⟩ := Dp.reads I _ _ u (.lst a b) ru
          cases (show u = Value.ref _ from ru)
          exact repr_of_reads' rd ok1 (fun z => absurd z (by rw [dp_noDict (.lst a b)]; decide)) hg (by omega) (fun _ _ e => e) (fun h' u tk hk => ⟨.str _, H, I.kept hk, ⟨_, rfl⟩, out_same R0 (.str _) q⟩) ok2
        | tup a b =>
          obtain ⟨as, rd⟩ := Dp.reads I _ _ u (.tup a b) ru
          cases (show u = Value.ref _ from ru)
          exact repr_of_reads' rd ok1 (fun z => absurd z (by rw [dp_noDict (.tup a b)]; decide)) hg (by omega) (fun _ _ e => e) (fun h' u tk hk => ⟨.str _, H, I.kept hk, ⟨_, rfl⟩, out_same R0 (.str _) q⟩) ok2
      · cases e
  · cases e
end
end MP
namespace MP
open PySem L2

/-- a def's promise where no repr is under way -/
structure FnG (P : Program) (w : World) (K : PySem.W.Frag) (mg : Str → Option Value) (base : Heap) (k : Nat) (f : Addr) (fd : FuncData) (ps : List Str) (sp : Sp) : Prop where
  len : ∀ vs H Q E, sp vs H Q E → vs.length = ps.length
  run : ∀ (A : Around), A.guards = some [] → Room k A → ∀ (outer : List PySem.Env) (s : Shared) (H : Hp) (args : PySem.Args) (us : List Value) (vs : List V) (Q : VK) (E : XK),
    Env0 P w K mg base A outer s H → BindsTo s fd args (ps.zip us) → Vals vs us → sp vs H Q E → codeAny (model P w) A (.call (.ref f) args) (CR CX0 outer P w H s Q E) s
/-- what a function of data promises -/
def spG (K : PySem.W.Frag) (n : Nat) (g : ON) : Sp := fun vs H Q _ => vs.length = n ∧ RON K g vs H Q
section
variable {X : Cx} {f : Addr} {fd : FuncData} {ps : List Str} {sp : Sp} {k : Nat}
theorem end_call {pins : List (Addr × Obj)} {σ : L2.St} {H : Hp} {s : Shared} {Q : VK} {E : XK} {r : Result} {s' : Shared} (I : Inv X pins σ H s) (h : CR CX0 X.stack X.prog X.w H s Q E r s') :
    ∃ u, r = .ok (.ret u) ∧ EP X pins σ Q u s' := by
  match r, h with
  | .ok (.ret u), h => exact ⟨u, rfl, I.after h⟩
theorem run_g {pins : List (Addr × Obj)} {σ : L2.St} {H : Hp} {s : Shared} {Q : VK} {us ws : List Value} {kw : List (Str × Value)} {vs : List V} (F : FnG X.prog X.w X.K X.mg X.base k f fd ps sp) (hg : X.A.guards = some []) (hr : Room k X.A)
    (I : Inv X pins σ H s) (hb : BindsTo s fd ⟨us, kw⟩ (ps.zip ws)) (r : Vals vs ws) (h : sp vs H Q E0) : wpAny (model X.prog X.w) X.A (call (.ref f) us kw) (EP X pins σ Q) X.xe s := by
  refine wpAny_call (codeAny_mono (F.run X.A hg hr X.stack s H ⟨us, kw⟩ ws vs Q E0 I.env0 hb r h) fun r s' hq => ?_)
  obtain ⟨u, e, q⟩ := end_call I hq
  rw [e]
  exact q
variable {x : Str} {p pos : Pos} {es : List Expr} {kws : List Keyword}
theorem star_no : ∀ (es : List Expr) (env : PySem.Env), (∀ e ∈ es, ∀ a b, e ≠ .Starred a b) → (backTo pos (starEach es env)).any (·.1) = false := by
  intro es env h
  induction es with
  | nil => rfl
  | cons e r ih =>
    have h1 : ∀ a b, e ≠ .Starred a b := h e List.mem_cons_self
    have h2 := ih fun e' he => h e' (List.mem_cons_of_mem _ he)
    cases e <;> first | exact absurd rfl (h1 _ _) | exact h2
theorem star_cons {e : Expr} {r : List Expr} {env : PySem.Env} (h : ∀ a b, e ≠ .Starred a b) : starEach (e :: r) env = (false, eval e env) :: starEach r env := by
  cases e <;> first | exact absurd rfl (h _ _) | rfl
/-- f(..): by place -/
theorem pe_callG {n : Nat} {g : ON} {fa : FA} (F : FnG X.prog X.w X.K X.mg X.base k f fd ps (spG X.K n g)) (hgd : X.A.guards = some []) (hr : Room k X.A) (hg : Gl X x) (hm : X.mg x = some (.ref f)) (hk : PySem.W.keepIn X.K (.ref f) = true)
    (hb : ∀ (s : Shared) (us : List Value), us.length = ps.length → BindsTo s fd ⟨us, []⟩ (ps.zip us)) (hne : es ≠ []) (hn : n = es.length) (hps : n = ps.length) (ha : PA X es (TA' X.K fa)) (hfa : ∀ env S ds S', fa env S = some (ds, S') → ds.length = es.length) (hst : ∀ e ∈ es, ∀ a b, e ≠ Expr.Starred a b)
    (hdb : (x == ("__debug__" : Str)) = false) : PE X (.Call (.Name x p) es [] pos) (T X.K (fN g fa)) := by
  refine ⟨fun pins s σ H Q I h => ?_⟩
  refine wpAny_Call_Name_kw (ld_glob I hg hm ?_ hdb)
  obtain ⟨β, env, S, d, S', r, er, e, q⟩ := h
  unfold fN at e
  cases h1 : fa env S with
  | none => rw [h1] at e; cases e
  | some p1 =>
    obtain ⟨ds, S1⟩ := p1
    simp only [h1] at e
    have hl := hfa _ _ _ _ h1
    have go : ∀ (us : List Value) (s1 : Shared) (vs : List V) (H1 : Hp) (β1 : List Addr), Inv X pins σ H1 s1 → Vals vs us → Le β β1 → Ext X.K H H1 → R X.K β1 H1 S1 → VRs X.K H1 β1 vs ds → wpAny (model X.prog X.w) X.A (call (.ref f) us) (EP X pins σ Q) X.xe s1 := fun us s1 vs H1 β1 I1 rv l1 x1 r1 vr => by
      refine run_g F hgd hr I1 (hb s1 us ?_) rv ⟨?_, β1, S1, ds, d, S', r1, vr, e, fun β' v H' l' x' r' v' => q β' v H' (l1.trans l') (x1.trans x') r' v'⟩
      · rw [← rv.length, vr.length, hl, ← hn, hps]
      · rw [vr.length, hl, hn]
    cases es with
    | nil => exact absurd rfl hne
    | cons e0 r0 =>
      refine PySem.W.callWith_K (h₀ := X.base) I.ok.mod.kin hk (thn (ha.run pos pins s σ H (fun vs H1 => ∃ β1, Le β β1 ∧ Ext X.K H H1 ∧ R X.K β1 H1 S1 ∧ VRs X.K H1 β1 vs ds) I ⟨β, env, S, ds, S1, r, er, h1, fun β' v H' l x' r' vr => ⟨β', l, x', r', vr⟩⟩) fun us s1 ⟨vs, H1, I1, rv, β1, l1, x1, r1, vr⟩ => ⟨I1.kIn, ?_⟩) (star_cons (hst e0 List.mem_cons_self)) (star_no _ _ fun e he => hst e (List.mem_cons_of_mem _ he))
      exact go us s1 vs H1 β1 I1 rv l1 x1 r1 vr
/-- f() -/
theorem pe_callG0 {g : ON} (F : FnG X.prog X.w X.K X.mg X.base k f fd [] (spG X.K 0 g)) (hgd : X.A.guards = some []) (hr : Room k X.A) (hg : Gl X x) (hm : X.mg x = some (.ref f)) (hk : PySem.W.keepIn X.K (.ref f) = true)
    (hb : ∀ (s : Shared) (us : List Value), us.length = 0 → BindsTo s fd ⟨us, []⟩ (([] : List Str).zip us)) (hdb : (x == ("__debug__" : Str)) = false) : PE X (.Call (.Name x p) [] [] pos) (T X.K (fN g fNil)) := by
  refine ⟨fun pins s σ H Q I h => ?_⟩
  refine wpAny_Call_Name_kw (ld_glob I hg hm ?_ hdb)
  obtain ⟨β, env, S, d, S', r, er, e, q⟩ := h
  have e' : g [] S = some (d, S') := e
  refine PySem.W.callWith_K0 I.kIn hk ?_
  exact run_g (ps := []) (ws := []) (vs := []) F hgd hr I (hb s [] rfl) .nil ⟨rfl, β, S, [], d, S', r, .nil, e', q⟩
/-- f(k = v, ..): by name alone; pm: for each parameter the place of its keyword -/
theorem kw_all : ∀ (kws : List Keyword) (env : PySem.Env), (∀ k ∈ kws, k.arg.isSome = true) → (backToKw pos (keywordEach kws env)).all (·.1.isSome) = true := by
  intro kws env h
  induction kws with
  | nil => rfl
  | cons k r ih =>
    obtain ⟨a, b, c⟩ := k
    have h1 : a.isSome = true := h _ List.mem_cons_self
    have h2 := ih fun k' hk => h k' (List.mem_cons_of_mem _ hk)
    show (a.isSome && _) = true
    rw [h1]
    exact h2
theorem kw_none : ∀ (kws : List Keyword) (env : PySem.Env), (∀ k ∈ kws, k.arg.isSome = true) → (backToKw pos (keywordEach kws env)).any (·.1.isNone) = false := by
  intro kws env h
  induction kws with
  | nil => rfl
  | cons k r ih =>
    obtain ⟨a, b, c⟩ := k
    have h1 : a.isSome = true := h _ List.mem_cons_self
    have h2 := ih fun k' hk => h k' (List.mem_cons_of_mem _ hk)
    show (a.isNone || _) = false
    cases a with
    | none => cases h1
    | some _ => exact h2
theorem kw_names : ∀ (kws : List Keyword) (env : PySem.Env), (backToKw pos (keywordEach kws env)).filterMap (·.1) = kws.filterMap (·.arg) := by
  intro kws env
  induction kws with
  | nil => rfl
  | cons k r ih =>
    obtain ⟨a, b, c⟩ := k
    show List.filterMap _ ((a, _) :: _) = List.filterMap _ (⟨a, b, c⟩ :: r)
    rw [List.filterMap_cons, List.filterMap_cons]
    simp only
    cases a with
    | none => exact ih
    | some _ => exact congrArg _ ih
def permD {α : Type} (pm : List Nat) (l : List α) : Option (List α) := match pm with
  | [] => some []
  | i :: r => match l[i]?, permD r l with
    | some x, some xs => some (x :: xs)
    | _, _ => none
theorem VRs.perm {K : PySem.W.Frag} {H : Hp} {β : List Addr} {vs : List V} {ds : List D} (h : VRs K H β vs ds) : ∀ {pm : List Nat} {es : List D}, permD pm ds = some es → ∃ ws : List V, permD pm vs = some ws ∧ VRs K H β ws es
  | [], es, e => by
    cases e
    exact ⟨[], rfl, .nil⟩
  | i :: r, es, e => by
    unfold permD at e
    cases h1 : ds[i]? with
    | none => simp only [h1] at e; cases e
    | some d =>
      cases h2 : permD r ds with
      | none => simp only [h1, h2] at e; cases e
      | some ds' =>
        simp only [h1, h2] at e
        cases e
        obtain ⟨ws, q1, q2⟩ := VRs.perm h h2
        obtain ⟨v, q3, q4⟩ := h.get h1
        exact ⟨v :: ws, by unfold permD; simp only [q3, q1], .cons q4 q2⟩
theorem vals_perm {vs : List V} {us : List Value} (h : Vals vs us) : ∀ {pm : List Nat} {ws : List V}, permD pm vs = some ws → ∃ zs : List Value, permD pm us = some zs ∧ Vals ws zs
  | [], ws, e => by
    cases e
    exact ⟨[], rfl, .nil⟩
  | i :: r, ws, e => by
    unfold permD at e
    cases h1 : vs[i]? with
    | none => simp only [h1] at e; cases e
    | some d =>
      cases h2 : permD r vs with
      | none => simp only [h1, h2] at e; cases e
      | some ds' =>
        simp only [h1, h2] at e
        cases e
        obtain ⟨zs, q1, q2⟩ := vals_perm h h2
        obtain ⟨u, q3, q4⟩ := h.get h1
        exact ⟨u :: zs, by unfold permD; simp only [q3, q1], .cons q4 q2⟩
theorem permD_len {α : Type} {l : List α} : ∀ {pm : List Nat} {es : List α}, permD pm l = some es → es.length = pm.length
  | [], es, e => by
    cases e
    rfl
  | i :: r, es, e => by
    unfold permD at e
    cases h1 : l[i]? with
    | none => simp only [h1] at e; cases e
    | some d =>
      cases h2 : permD r l with
      | none => simp only [h1, h2] at e; cases e
      | some ds' =>
        simp only [h1, h2] at e
        cases e
        simp [permD_len h2]
def fPerm (pm : List Nat) (fa : FA) : FA := fun env S => match fa env S with
  | some (ds, S1) => match permD pm ds with
    | some es => some (es, S1)
    | none => none
  | none => none
theorem pe_callGK {n : Nat} {g : ON} {fa : FA} {pm : List Nat} {ks : List Str} (F : FnG X.prog X.w X.K X.mg X.base k f fd ps (spG X.K n g)) (hgd : X.A.guards = some []) (hr : Room k X.A) (hg : Gl X x) (hm : X.mg x = some (.ref f)) (hk : PySem.W.keepIn X.K (.ref f) = true)
    (hb : ∀ (s : Shared) (us ws : List Value), us.length = ks.length → permD pm us = some ws → BindsTo s fd ⟨[], ks.zip us⟩ (ps.zip ws)) (hn : n = pm.length) (ha : PK X kws (TA' X.K fa)) (hfa : ∀ env S ds S', fa env S = some (ds, S') → ds.length = ks.length)
    (hks : kws.filterMap (·.arg) = ks) (hall : ∀ k ∈ kws, k.arg.isSome = true) (hdb : (x == ("__debug__" : Str)) = false) : PE X (.Call (.Name x p) [] kws pos) (T X.K (fN g (fPerm pm fa))) := by
  refine ⟨fun pins s σ H Q I h => ?_⟩
  refine wpAny_Call_Name_kw (ld_glob I hg hm ?_ hdb)
  obtain ⟨β, env, S, d, S', r, er, e, q⟩ := h
  unfold fN fPerm at e
  cases h1 : fa env S with
  | none => simp only [h1] at e; cases e
  | some p1 =>
    obtain ⟨ds, S1⟩ := p1
    simp only [h1] at e
    cases h2 : permD pm ds with
    | none => simp only [h2] at e; cases e
    | some es =>
      simp only [h2] at e
      have hl := hfa _ _ _ _ h1
      refine PySem.W.callWith_KW0 (h₀ := X.base) I.ok.mod.kin hk (kw_all _ _ hall) (thn (ha.run pos pins s σ H (fun vs H1 => ∃ β1, Le β β1 ∧ Ext X.K H H1 ∧ R X.K β1 H1 S1 ∧ VRs X.K H1 β1 vs ds) I ⟨β, env, S, ds, S1, r, er, h1, fun β' v H' l x' r' vr => ⟨β', l, x', r', vr⟩⟩) fun us s1 ⟨vs, H1, I1, rv, β1, l1, x1, r1, vr⟩ => ⟨I1.kIn, ?_⟩) (by
        rw [kw_none _ _ hall]
        rfl)
      rw [kw_names, hks]
      obtain ⟨ws, q1, q2⟩ := vr.perm h2
      obtain ⟨zs, q3, q4⟩ := vals_perm rv q1
      refine run_g F hgd hr I1 (hb s1 us zs ?_ q3) q4 ⟨?_, β1, S1, es, d, S', r1, q2, e, fun β' v H' l' x' r' v' => q β' v H' (l1.trans l') (x1.trans x') r' v'⟩
      · rw [← rv.length, vr.length, hl]
      · rw [q2.length, permD_len h2, hn]
end
end MP
namespace MP
open PySem L2
/-! ### expressions -/
def fC (d : D) : FE := fun _ S => some (d, S)
def fVar (i : Nat) : FE := fun env S => match env[i]? with
  | some (some d) => some (d, S)
  | _ => none
def fTup (fa : FA) : FE := fun env S => match fa env S with
  | some (ds, S1) => gI (decide (ds.length ≤ sizeLine)) (.tup ds) S1
  | none => none
def fLst (fa : FA) : FE := fun env S => match fa env S with
  | some (ds, S1) => newL ds S1
  | none => none
def fB (fa : FE) : FB := fun env S => match fa env S with
  | some (.bl b, S1) => some (b, S1)
  | _ => none
def fAnd (fa fb : FE) : FE := fun env S => match fa env S with
  | some (.bl true, S1) => fb env S1
  | some (.bl false, S1) => some (.bl false, S1)
  | _ => none
def fOr (fa fb : FE) : FE := fun env S => match fa env S with
  | some (.bl true, S1) => some (.bl true, S1)
  | some (.bl false, S1) => fb env S1
  | _ => none
def fNot (fa : FE) : FE := fun env S => match fa env S with
  | some (.bl b, S1) => some (.bl (!b), S1)
  | _ => none
def fIte (fc fa fb : FE) : FE := fun env S => match fc env S with
  | some (.bl true, S1) => fa env S1
  | some (.bl false, S1) => fb env S1
  | _ => none
def fChain (g g' : O2) (fa fb fc : FE) : FE := fun env S => match fa env S with
  | some (x, S1) => match fb env S1 with
    | some (y, S2) => match g x y S2 with
      | some (.bl true, S3) => match fc env S3 with
        | some (z, S4) => g' y z S4
        | none => none
      | some (.bl false, S3) => some (.bl false, S3)
      | _ => none
    | none => none
  | none => none
def oNeg : O1 := fun x S => match x with
  | .int i => some (.int (-i), S)
  | _ => none
section
variable {X : Cx} {a b c : Expr} {fa fb fc : FE} {pos : Pos}
theorem T_const {e : Expr} {v : V} {d : D} (h : PE X e (tC v)) (hv : ∀ H β, VR X.K H β v d) : PE X e (T X.K (fC d)) := PE.to h fun σ H Q ⟨β, env, S, d', S', r, er, e1, q⟩ => by
  cases e1
  exact q β v H (Le.refl _) (Ext.refl _) r (hv H β)
theorem T_var {x : Str} {i : Nat} (hN : X.N[i]? = some x) (hv : Vis X.env.scope x) (hd : (x == ("__debug__" : Str)) = false) (hcd : (x == ("__classdict__" : Str)) = false) : PE X (.Name x pos) (T X.K (fVar i)) := PE.to (pe_var hN hv hd hcd) fun σ H Q ⟨β, env, S, d', S', r, er, e1, q⟩ => by
  unfold fVar at e1
  split at e1
  · rename_i d h
    cases e1
    obtain ⟨v, h1, h2⟩ := er.at_ i _ h
    exact ⟨v, h1, q β v H (Le.refl _) (Ext.refl _) r h2⟩
  · cases e1
theorem T_tup {es : List Expr} {fa : FA} {k : Nat} (h : PA X es (TA' X.K fa)) : PE X (.Tuple es k pos) (T X.K (fTup fa)) := PE.to (pe_tup h) fun σ H Q ⟨β, env, S, d', S', r, er, e1, q⟩ => by
  unfold fTup at e1
  cases h1 : fa env S with
  | none => rw [h1] at e1; cases e1
  | some p =>
    obtain ⟨ds, S1⟩ := p
    simp only [h1] at e1
    obtain ⟨c, e2, e3⟩ := gI_ok e1
    subst e2 e3
    refine ⟨β, env, S, ds, _, r, er, h1, fun β1 vs H1 l1 x1 r1 vr => ⟨vr.sz (by simpa using c), fun p hp => ?_⟩⟩
    exact out_tup r1 vr hp fun β' v H' l x r' v' => q β' v H' (l1.trans l) (x1.trans x) r' v'
theorem T_lst {es : List Expr} {fa : FA} (h : PA X es (TA' X.K fa)) : PE X (.List es pos) (T X.K (fLst fa)) := PE.to (pe_lst h) fun σ H Q ⟨β, env, S, d', S', r, er, e1, q⟩ => by
  unfold fLst at e1
  cases h1 : fa env S with
  | none => rw [h1] at e1; cases e1
  | some p =>
    obtain ⟨ds, S1⟩ := p
    simp only [h1] at e1
    obtain ⟨c, e2, e3⟩ := newL_ok e1
    subst e2 e3
    refine ⟨β, env, S, ds, _, r, er, h1, fun β1 vs H1 l1 x1 r1 vr => ⟨vr.sz c, fun p hp => ?_⟩⟩
    exact out_lst r1 vr hp fun β' v H' l x r' v' => q β' v H' (l1.trans l) (x1.trans x) r' v'
theorem T_bin {op : Operator} {g : O2} (ho : OpR X (binaryOp op) (RO X.K g)) (ha : PE X a (T X.K fa)) (hb : PE X b (T X.K fb)) : PE X (.BinOp a op b pos) (T X.K (f2 g fa fb)) := PE.to (pe_op ho ha hb) fun _ _ _ h => T_op h
theorem T_cmp {op : CmpOp} {g : O2} (ho : OpR X (compareOp op) (RO X.K g)) (ha : PE X a (T X.K fa)) (hb : PE X b (T X.K fb)) (hm : behindInMarks op b = false) : PE X (.Compare a [op] [b] pos) (T X.K (f2 g fa fb)) := PE.to (pe_cmpR ho ha hb hm) fun _ _ _ h => T_op h
theorem T_idx (ha : PE X a (T X.K fa)) (hb : PE X b (T X.K fb)) (hp : PlainIx b) : PE X (.Subscript a b pos) (T X.K (f2 oIdx fa fb)) := PE.to (pe_ix ix_all ha hb hp) fun _ _ _ h => T_op h
theorem un_neg' : UnR X (unaryOp .USub) (RO1 X.K oNeg) := fun pins s σ H x v Q I rx ⟨β, S, d, r, S', R0, h, e, q⟩ => by
  cases h <;> first | (simp only [oNeg] at e; cases e; done) | skip
  simp only [oNeg] at e
  cases e
  exact un_neg pins s σ H _ v Q I rx ⟨_, rfl, out_same R0 (.int _) q⟩
theorem T_neg (ha : PE X a (T X.K fa)) : PE X (.UnaryOp .USub a pos) (T X.K (f1 oNeg fa)) := PE.to (pe_un un_neg' ha) fun _ _ _ h => T_un h
/-- a value that is a bool, as a test -/
theorem fB_ok {env : En} {S S' : Sto} {b : Bool} (h : fB fa env S = some (b, S')) : fa env S = some (.bl b, S') := by
  unfold fB at h
  split at h
  · rename_i b' S1 e
    cases h
    exact e
  · cases h
theorem TB_to {K : PySem.W.Frag} {σ : L2.St} {H : Hp} {Q : Bool → Hp → Prop} (h : TB K (fB fa) σ H Q) : T K fa σ H (fun x H1 => ∃ c, x = .bl c ∧ Q c H1) := by
  obtain ⟨β, env, S, d, S', r, er, e, q⟩ := h
  refine ⟨β, env, S, _, S', r, er, fB_ok e, fun β' v H' l x r' vr => ?_⟩
  cases vr
  exact ⟨_, rfl, q β' H' l x r'⟩
theorem T_val {e : Expr} (h : PE X e (T X.K fa)) (he : ∀ whole, isTrue e X.env whole = (do let v ← whole; standAt e.pos; holding [v] (truthy v))) : PT X e (TB X.K (fB fa)) := PT.to (pt_val h he) fun _ _ _ h => TB_to h
theorem T_cmpT {op : CmpOp} {g : O2} (ho : OpR X (compareOp op) (RO X.K g)) (ha : PE X a (T X.K fa)) (hb : PE X b (T X.K fb)) (hm : behindInMarks op b = false) : PT X (.Compare a [op] [b] pos) (TB X.K (fB (f2 g fa fb))) := PT.to (pt_cmpR ho ha hb hm) fun _ _ _ h => T_op (TB_to h)
theorem T_chain0 {K : PySem.W.Frag} {g g' : O2} {σ : L2.St} {H : Hp} {Q : VK} (h : T K (fChain g g' fa fb fc) σ H Q) : tChain (RO K g) (RO K g') (T K fa) (T K fb) (T K fc) σ H Q := by
  obtain ⟨β, env, S, d, S', r, er, e, q⟩ := h
  unfold fChain at e
  cases h1 : fa env S with
  | none => rw [h1] at e; cases e
  | some p1 =>
    obtain ⟨x, S1⟩ := p1
    simp only [h1] at e
    cases h2 : fb env S1 with
    | none => rw [h2] at e; cases e
    | some p2 =>
      obtain ⟨y, S2⟩ := p2
      simp only [h2] at e
      refine ⟨β, env, S, x, S1, r, er, h1, fun β1 v1 H1 l1 x1 r1 vr1 => ?_⟩
      refine ⟨β1, env, S1, y, S2, r1, er.mono x1 l1, h2, fun β2 v2 H2 l2 x2 r2 vr2 => ?_⟩
      cases h3 : g x y S2 with
      | none => rw [h3] at e; cases e
      | some p3 =>
        obtain ⟨z, S3⟩ := p3
        simp only [h3] at e
        refine ⟨β2, S2, x, y, z, S3, r2, vr1.mono x2 l2, vr2, h3, fun β3 v3 H3 l3 x3 r3 vr3 => ?_⟩
        cases z <;> first | (simp only at e; cases e; done) | skip
        rename_i k
        cases vr3
        refine ⟨k, rfl, ?_⟩
        cases k with
        | false =>
          simp only at e
          cases e
          rw [if_neg (by decide)]
          exact q β3 _ H3 ((l1.trans l2).trans l3) ((x1.trans x2).trans x3) r3 (.bl _)
        | true =>
          simp only at e
          rw [if_pos rfl]
          cases h4 : fc env S3 with
          | none => rw [h4] at e; cases e
          | some p4 =>
            obtain ⟨w, S4⟩ := p4
            simp only [h4] at e
            refine ⟨β3, env, S3, w, S4, r3, er.mono ((x1.trans x2).trans x3) ((l1.trans l2).trans l3), h4, fun β4 v4 H4 l4 x4 r4 vr4 => ?_⟩
            exact ⟨β4, S4, y, w, d, S', r4, vr2.mono (x3.trans x4) (l3.trans l4), vr4, e, fun β5 v5 H5 l5 x5 r5 vr5 => q β5 v5 H5 ((((l1.trans l2).trans l3).trans l4).trans l5) ((((x1.trans x2).trans x3).trans x4).trans x5) r5 vr5⟩
theorem T_chain {op op' : CmpOp} {g g' : O2} (ho : OpR X (compareOp op) (RO X.K g)) (ho' : OpR X (compareOp op') (RO X.K g')) (ha : PE X a (T X.K fa)) (hb : PE X b (T X.K fb)) (hc : PE X c (T X.K fc)) (hm : lastMarks [op, op'] [b, c] = false) :
    PE X (.Compare a [op, op'] [b, c] pos) (T X.K (fChain g g' fa fb fc)) := PE.to (pe_chain ho ho' ha hb hc hm) fun _ _ _ h => T_chain0 h
theorem T_chainT {op op' : CmpOp} {g g' : O2} (ho : OpR X (compareOp op) (RO X.K g)) (ho' : OpR X (compareOp op') (RO X.K g')) (ha : PE X a (T X.K fa)) (hb : PE X b (T X.K fb)) (hc : PE X c (T X.K fc)) (hm : lastMarks [op, op'] [b, c] = false) :
    PT X (.Compare a [op, op'] [b, c] pos) (TB X.K (fB (fChain g g' fa fb fc))) := PT.to (pt_chain ho ho' ha hb hc hm) fun _ _ _ h => T_chain0 (TB_to h)
theorem T_notT (h : PT X a (TB X.K (fB fa))) : PT X (.UnaryOp .Not a pos) (TB X.K (fB (fNot fa))) := PT.to (pt_not h) fun σ H Q ⟨β, env, S, d, S', r, er, e, q⟩ => by
  have e1 := fB_ok e
  unfold fNot at e1
  split at e1
  · rename_i b' S1 e2
    cases e1
    refine ⟨β, env, S, b', S', r, er, by unfold fB; rw [e2], fun β' H' l x r' => q β' H' l x r'⟩
  · cases e1
theorem T_not (h : PE X a (T X.K fa)) : PE X (.UnaryOp .Not a pos) (T X.K (fNot fa)) := PE.to (pe_not h) fun σ H Q ⟨β, env, S, d, S', r, er, e1, q⟩ => by
  unfold fNot at e1
  split at e1
  · rename_i b' S1 e2
    cases e1
    refine ⟨β, env, S, _, S', r, er, e2, fun β' v H' l x r' vr => ?_⟩
    cases vr
    exact ⟨_, rfl, q β' _ H' l x r' (.bl _)⟩
  · cases e1
theorem T_and1 {rest : List Expr} (ha : PE X a (T X.K fa)) (hb : PE X (.BoolOp .And (b :: rest) pos) (T X.K fb)) : PE X (.BoolOp .And (a :: b :: rest) pos) (T X.K (fAnd fa fb)) := PE.to (pe_and ha hb) fun σ H Q ⟨β, env, S, d, S', r, er, e1, q⟩ => by
  unfold fAnd at e1
  split at e1
  · rename_i S1 e2
    refine ⟨β, env, S, _, S1, r, er, e2, fun β1 v H1 l1 x1 r1 vr => ?_⟩
    cases vr
    refine ⟨true, rfl, ?_⟩
    rw [if_pos rfl]
    exact ⟨β1, env, S1, d, S', r1, er.mono x1 l1, e1, fun β' v H' l x r' vr => q β' v H' (l1.trans l) (x1.trans x) r' vr⟩
  · rename_i S1 e2
    cases e1
    refine ⟨β, env, S, _, _, r, er, e2, fun β1 v H1 l1 x1 r1 vr => ?_⟩
    cases vr
    refine ⟨false, rfl, ?_⟩
    rw [if_neg (by decide)]
    exact q β1 _ H1 l1 x1 r1 (.bl _)
  · cases e1
theorem T_or1 {rest : List Expr} (ha : PE X a (T X.K fa)) (hb : PE X (.BoolOp .Or (b :: rest) pos) (T X.K fb)) : PE X (.BoolOp .Or (a :: b :: rest) pos) (T X.K (fOr fa fb)) := PE.to (pe_or ha hb) fun σ H Q ⟨β, env, S, d, S', r, er, e1, q⟩ => by
  unfold fOr at e1
  split at e1
  · rename_i S1 e2
    cases e1
    refine ⟨β, env, S, _, _, r, er, e2, fun β1 v H1 l1 x1 r1 vr => ?_⟩
    cases vr
    refine ⟨true, rfl, ?_⟩
    rw [if_pos rfl]
    exact q β1 _ H1 l1 x1 r1 (.bl _)
  · rename_i S1 e2
    refine ⟨β, env, S, _, S1, r, er, e2, fun β1 v H1 l1 x1 r1 vr => ?_⟩
    cases vr
    refine ⟨false, rfl, ?_⟩
    rw [if_neg (by decide)]
    exact ⟨β1, env, S1, d, S', r1, er.mono x1 l1, e1, fun β' v H' l x r' vr => q β' v H' (l1.trans l) (x1.trans x) r' vr⟩
  · cases e1
theorem T_andT {rest : List Expr} (ha : PT X a (TB X.K (fB fa))) (hb : PW X (.BoolOp .And (b :: rest) pos) (TB X.K (fB fb))) : PW X (.BoolOp .And (a :: b :: rest) pos) (TB X.K (fB (fAnd fa fb))) := PW.to (pw_and ha hb) fun σ H Q ⟨β, env, S, d, S', r, er, e, q⟩ => by
  have e1 := fB_ok e
  unfold fAnd at e1
  split at e1
  · rename_i S1 e2
    refine ⟨β, env, S, true, S1, r, er, by unfold fB; rw [e2], fun β1 H1 l1 x1 r1 => ?_⟩
    dsimp only
    rw [if_pos rfl]
    exact ⟨β1, env, S1, d, S', r1, er.mono x1 l1, by unfold fB; rw [e1], fun β' H' l x r' => q β' H' (l1.trans l) (x1.trans x) r'⟩
  · rename_i S1 e2
    cases e1
    refine ⟨β, env, S, false, _, r, er, by unfold fB; rw [e2], fun β1 H1 l1 x1 r1 => ?_⟩
    dsimp only
    rw [if_neg (by decide)]
    exact q β1 H1 l1 x1 r1
  · cases e1
theorem T_orT {rest : List Expr} (ha : PT X a (TB X.K (fB fa))) (hb : PW X (.BoolOp .Or (b :: rest) pos) (TB X.K (fB fb))) : PW X (.BoolOp .Or (a :: b :: rest) pos) (TB X.K (fB (fOr fa fb))) := PW.to (pw_or ha hb) fun σ H Q ⟨β, env, S, d, S', r, er, e, q⟩ => by
  have e1 := fB_ok e
  unfold fOr at e1
  split at e1
  · rename_i S1 e2
    cases e1
    refine ⟨β, env, S, true, _, r, er, by unfold fB; rw [e2], fun β1 H1 l1 x1 r1 => ?_⟩
    dsimp only
    rw [if_pos rfl]
    exact q β1 H1 l1 x1 r1
  · rename_i S1 e2
    refine ⟨β, env, S, false, S1, r, er, by unfold fB; rw [e2], fun β1 H1 l1 x1 r1 => ?_⟩
    dsimp only
    rw [if_neg (by decide)]
    exact ⟨β1, env, S1, d, S', r1, er.mono x1 l1, by unfold fB; rw [e1], fun β' H' l x r' => q β' H' (l1.trans l) (x1.trans x) r'⟩
  · cases e1
theorem T_ite (hc : PT X c (TB X.K (fB fc))) (ha : PE X a (T X.K fa)) (hb : PE X b (T X.K fb)) : PE X (.IfExp c a b pos) (T X.K (fIte fc fa fb)) := PE.to (pe_ifExp hc ha hb) fun σ H Q ⟨β, env, S, d, S', r, er, e1, q⟩ => by
  unfold fIte at e1
  split at e1
  · rename_i S1 e2
    refine ⟨β, env, S, true, S1, r, er, by unfold fB; rw [e2], fun β1 H1 l1 x1 r1 => ?_⟩
    dsimp only
    rw [if_pos rfl]
    exact ⟨β1, env, S1, d, S', r1, er.mono x1 l1, e1, fun β' v H' l x r' vr => q β' v H' (l1.trans l) (x1.trans x) r' vr⟩
  · rename_i S1 e2
    refine ⟨β, env, S, false, S1, r, er, by unfold fB; rw [e2], fun β1 H1 l1 x1 r1 => ?_⟩
    dsimp only
    rw [if_neg (by decide)]
    exact ⟨β1, env, S1, d, S', r1, er.mono x1 l1, e1, fun β' v H' l x r' vr => q β' v H' (l1.trans l) (x1.trans x) r' vr⟩
  · cases e1
theorem T_args_nil : PA X [] (TA' X.K fNil) := PA.to pa_nil fun _ _ _ h => T_nil h
theorem T_args_cons {es : List Expr} {fr : FA} (ha : PE X a (T X.K fa)) (hr : PA X es (TA' X.K fr)) (hs : ∀ x y, a ≠ .Starred x y) : PA X (a :: es) (TA' X.K (fCons fa fr)) := PA.to (pa_cons ha hr (star_cons hs)) fun _ _ _ h => T_cons h
theorem PK_to {kws : List Keyword} {t u : TA} (h : PK X kws t) (w : ∀ σ H Q, u σ H Q → t σ H Q) : PK X kws u := ⟨fun p pins s σ H Q I q => h.run p pins s σ H Q I (w _ _ _ q)⟩
theorem T_kw_nil : PK X [] (TA' X.K fNil) := PK_to pk_nil fun _ _ _ h => T_nil h
theorem T_kw_cons {kws : List Keyword} {nm : Option Str} {kp : Pos} {fr : FA} (ha : PE X a (T X.K fa)) (hr : PK X kws (TA' X.K fr)) : PK X (⟨nm, a, kp⟩ :: kws) (TA' X.K (fCons fa fr)) := PK_to (pk_cons ha hr) fun _ _ _ h => T_cons h
/-- a built-in function or type -/
theorem T_blt {id : String} {x : Str} {p : Pos} {es : List Expr} {e : Expr} {g : ON} {fa : FA} (hc : CallR X (.builtin id) (RON X.K g)) (hg : Gl X x) (hm : X.mg x = none) (hv : bootBuiltins x = some (.builtin id)) (ha : PA X (e :: es) (TA' X.K fa)) (hn : x ≠ "__name__") (hdb : (x == ("__debug__" : Str)) = false)
    (hst : ∀ z ∈ e :: es, ∀ a b, z ≠ Expr.Starred a b) : PE X (.Call (.Name x p) (e :: es) [] pos) (T X.K (fN g fa)) := PE.to (pe_callB hc hg hm hv ha hn hdb (star_cons (hst e List.mem_cons_self)) (star_no _ _ fun z hz => hst z (List.mem_cons_of_mem _ hz))) fun _ _ _ h => T_N h
theorem T_ty {id : String} {x : Str} {p : Pos} {es : List Expr} {e : Expr} {g : ON} {fa : FA} (hc : CallR X (.type id) (RON X.K g)) (hg : Gl X x) (hm : X.mg x = none) (hv : bootBuiltins x = some (.type id)) (ha : PA X (e :: es) (TA' X.K fa)) (hn : x ≠ "__name__") (hdb : (x == ("__debug__" : Str)) = false)
    (hst : ∀ z ∈ e :: es, ∀ a b, z ≠ Expr.Starred a b) : PE X (.Call (.Name x p) (e :: es) [] pos) (T X.K (fN g fa)) := PE.to (pe_callTy hc hg hm hv ha hn hdb (star_cons (hst e List.mem_cons_self)) (star_no _ _ fun z hz => hst z (List.mem_cons_of_mem _ hz))) fun _ _ _ h => T_N h
/-- isinstance(e, T), T a built-in class's name -/
theorem T_isi {t : Ty} {p p2 : Pos} {x : Str} (ha : PE X a (T X.K fa)) (hx : x = Str.ofString t.nm) (hg : Gl X "isinstance") (hm : X.mg "isinstance" = none) (hg2 : Gl X x) (hm2 : X.mg x = none) (hv2 : bootBuiltins x = some (.type t.nm)) (hv : bootBuiltins "isinstance" = some (.builtin "isinstance")) (hst : ∀ x y, a ≠ .Starred x y) (hn2 : x ≠ "__name__") (hdb2 : (x == ("__debug__" : Str)) = false) :
    PE X (.Call (.Name "isinstance" p) [a, .Name x p2] [] pos) (T X.K (fN (bIsi t) (fCons fa fNil))) :=
  PE.to (pe_callB (cb_isi t) hg hm hv (pa_cons ha (pa_cons (pe_bltn (v := .ty t.nm) hg2 hm2 hv2 rfl hn2 hdb2) pa_nil) (star_cons hst)) (by decide) (by decide) (star_cons hst) (star_no _ _ fun z hz a b e => by
    subst e
    simp at hz)) fun σ H Q ⟨β, env, S, d, S', r, er, e1, q⟩ => by
    unfold fN fCons fNil at e1
    cases h1 : fa env S with
    | none => simp only [h1] at e1; cases e1
    | some p1 =>
      obtain ⟨y, S1⟩ := p1
      simp only [h1] at e1
      refine ⟨β, env, S, y, S1, r, er, h1, fun β1 v H1 l1 x1 r1 vr => ?_⟩
      exact ⟨v, rfl, β1, S1, [y], d, S', r1, .cons vr .nil, e1, fun β' v H' l x r' vr => q β' v H' (l1.trans l) (x1.trans x) r' vr⟩
end
end MP
namespace MP
open PySem L2
/-! ### targets -/
inductive Tn where
  | nm (i : Nat)
  | tu (l : List Tn)
mutual
def Tn.asg : Tn → D → En → Option En
  | .nm i, d, env => some (env.set i (some d))
  | .tu l, .tup ds, env => Tn.asgs l ds env
  | .tu _, _, _ => none
def Tn.asgs : List Tn → List D → En → Option En
  | [], [], env => some env
  | t :: ts, d :: ds, env => match Tn.asg t d env with
    | some e1 => Tn.asgs ts ds e1
    | none => none
  | _, _, _ => none
end
mutual
def Tn.ix : Tn → List Nat
  | .nm i => [i]
  | .tu l => Tn.ixs l
def Tn.ixs : List Tn → List Nat
  | [] => []
  | t :: ts => Tn.ix t ++ Tn.ixs ts
end
/-- only the slots at l may have changed -/
def Keep (σ σ' : L2.St) (l : List Nat) : Prop := σ'.length = σ.length ∧ ∀ j : Nat, j ∉ l → σ'[j]? = σ[j]?
theorem Keep.refl (σ : L2.St) (l : List Nat) : Keep σ σ l := ⟨rfl, fun _ _ => rfl⟩
theorem Keep.trans {σ σ1 σ2 : L2.St} {l l1 l2 : List Nat} (a : Keep σ σ1 l1) (b : Keep σ1 σ2 l2) (h1 : ∀ j ∈ l1, j ∈ l) (h2 : ∀ j ∈ l2, j ∈ l) : Keep σ σ2 l :=
  ⟨b.1.trans a.1, fun j hj => (b.2 j fun z => hj (h2 j z)).trans (a.2 j fun z => hj (h1 j z))⟩
def TGt (K : PySem.W.Frag) (t : Tn) : TG := fun v σ H Q => ∃ β env d env', ER K β H σ env ∧ VR K H β v d ∧ t.asg d env = some env' ∧ ∀ σ', ER K β H σ' env' → Keep σ σ' t.ix → Q σ' H
def TGts (K : PySem.W.Frag) (ts : List Tn) : TGs := fun vs σ H Q => ∃ β env ds env', ER K β H σ env ∧ VRs K H β vs ds ∧ Tn.asgs ts ds env = some env' ∧ ∀ σ', ER K β H σ' env' → Keep σ σ' (Tn.ixs ts) → Q σ' H
section
variable {X : Cx} {pos : Pos}
theorem PG_to {e : Expr} {t u : TG} (h : PG X e t) (w : ∀ v σ H Q, u v σ H Q → t v σ H Q) : PG X e u := ⟨fun pins s σ H v x Q I r q => h.run pins s σ H v x Q I r (w _ _ _ _ q)⟩
theorem PGs_to {e : List Expr} {t u : TGs} (h : PGs X e t) (w : ∀ v σ H Q, u v σ H Q → t v σ H Q) : PGs X e u := ⟨fun pins s σ H v x Q I r q => h.run pins s σ H v x Q I r (w _ _ _ _ q)⟩
theorem TG_name {i : Nat} {x : Str} (hN : X.N.Nodup) (hi : X.N[i]? = some x) (hx : Loc X.env.scope x) (hf : X.fn x = true ∨ X.env.scope.names.lookup x = some .local) : PG X (.Name x pos) (TGt X.K (.nm i)) :=
  PG_to (pg_name hN hi hx hf) fun v σ H Q ⟨β, env, d, env', er, vr, e, q⟩ => by
    simp only [Tn.asg] at e
    cases e
    refine q _ (er.set i vr) ⟨by simp, fun j hj => ?_⟩
    simp only [Tn.ix, List.mem_singleton] at hj
    rw [List.getElem?_set_ne (fun z => hj z.symm)]
theorem TGs_nil : PGs X [] (TGts X.K []) := PGs_to pgs_nil fun vs σ H Q ⟨β, env, d, env', er, vr, e, q⟩ => by
  cases vr with
  | nil =>
    simp only [Tn.asgs] at e
    cases e
    exact ⟨rfl, q σ er (Keep.refl _ _)⟩
  | cons _ _ =>
    simp only [Tn.asgs] at e
    cases e
theorem assign_cons {e : Expr} {es : List Expr} {env : PySem.Env} (h : ∀ a b, e ≠ .Starred a b) : assignEach (e :: es) env = (false, assign e env) :: assignEach es env := by
  cases e <;> first | exact absurd rfl (h _ _) | rfl
theorem TGs_cons {e : Expr} {es : List Expr} {t : Tn} {ts : List Tn} (h1 : PG X e (TGt X.K t)) (h2 : PGs X es (TGts X.K ts)) (hs : ∀ a b, e ≠ .Starred a b) : PGs X (e :: es) (TGts X.K (t :: ts)) :=
  PGs_to (pgs_cons h1 h2 (by rw [assign_cons hs]; rfl)) fun vs σ H Q ⟨β, env, d, env', er, vr, e, q⟩ => by
    cases vr with
    | nil =>
      simp only [Tn.asgs] at e
      cases e
    | @cons x d0 xs ds hd hr =>
      simp only [Tn.asgs] at e
      cases h3 : Tn.asg t d0 env with
      | none => rw [h3] at e; cases e
      | some e1 =>
        simp only [h3] at e
        refine ⟨x, xs, rfl, β, env, d0, e1, er, hd, h3, fun σ1 er1 k1 => ?_⟩
        refine ⟨β, e1, ds, env', er1, hr, e, fun σ2 er2 k2 => q σ2 er2 (k1.trans k2 (fun j hj => ?_) fun j hj => ?_)⟩
        · simp only [Tn.ixs, List.mem_append]
          exact .inl hj
        · simp only [Tn.ixs, List.mem_append]
          exact .inr hj
theorem TG_tup {es : List Expr} {k : Nat} {ts : List Tn} (hc : X.calm = true) (h : PGs X es (TGts X.K ts)) (hl : es.length = ts.length) (hst : ∀ e ∈ es, ∀ a b, e ≠ Expr.Starred a b) : PG X (.Tuple es k pos) (TGt X.K (.tu ts)) := by
  have e1 : ∀ es : List Expr, (∀ e ∈ es, ∀ a b, e ≠ Expr.Starred a b) → (assignEach es X.env).length = es.length ∧ (assignEach es X.env).findIdx? (·.1) = none := by
    intro es h
    induction es with
    | nil => exact ⟨rfl, rfl⟩
    | cons e r ih =>
      obtain ⟨a, b⟩ := ih fun z hz => h z (List.mem_cons_of_mem _ hz)
      rw [assign_cons (h e List.mem_cons_self)]
      refine ⟨by simp [a], ?_⟩
      rw [List.findIdx?_cons]
      simp [b]
  refine PG_to (pg_tup hc h (e1 es hst).1 (e1 es hst).2) fun v σ H Q ⟨β, env, d, env', er, vr, e, q⟩ => ?_
  have sh : ∃ ds, d = .tup ds ∧ Tn.asgs ts ds env = some env' := by
    cases d <;> first | (simp only [Tn.asg] at e; cases e; done) | skip
    simp only [Tn.asg] at e
    exact ⟨_, rfl, e⟩
  obtain ⟨ds, rfl, e⟩ := sh
  obtain ⟨a, xs, rfl, hx, rx⟩ : ∃ (a : Addr) (xs : List V), v = .ref a ∧ SqT X.K H a xs ∧ VRs X.K H β xs ds := by
    cases vr with
    | tup hx rx => exact ⟨_, _, rfl, hx, rx⟩
  have ln : ∀ (ts : List Tn) (ds : List D) (env env' : En), Tn.asgs ts ds env = some env' → ds.length = ts.length := by
    intro ts
    induction ts with
    | nil =>
      intro ds env env' h
      cases ds with
      | nil => rfl
      | cons _ _ => simp only [Tn.asgs] at h; cases h
    | cons t ts ih =>
      intro ds env env' h
      cases ds with
      | nil => simp only [Tn.asgs] at h; cases h
      | cons d ds =>
        simp only [Tn.asgs] at h
        cases h3 : Tn.asg t d env with
        | none => rw [h3] at h; cases h
        | some e1 =>
          simp only [h3] at h
          simp [ih _ _ _ h]
  refine ⟨a, xs, rfl, hx, by rw [rx.length, ln _ _ _ _ e, hl], β, env, ds, env', er, rx, e, fun σ' er' k' => q σ' er' ?_⟩
  simpa only [Tn.ix] using k'
end

/-! ### what is walked -/
abbrev Lv := List (Nat × List D)
def Live (lv : Lv) (S : Sto) : Prop := ∀ p ∈ lv, itemsAt S p.1 = some p.2
abbrev FI := En → Sto → Option (List D × Lv × Sto)
/-- an iterator that yields the items ds as long as the lists of lv stand -/
def IterOk (K : PySem.W.Frag) (β : List Addr) (H : Hp) (J : It) (ds : List D) (lv : Lv) : Prop := ∀ (i : Nat) (β1 : List Addr) (H1 : Hp) (S1 : Sto), Le β β1 → Ext K H H1 → R K β1 H1 S1 → Live lv S1 →
  (i = ds.length → J.stop i H1) ∧ ∀ d, ds[i]? = some d → J.go i H1 ∧ ∀ x H2, J.yld i H1 x H2 → ∃ β2, Le β1 β2 ∧ Ext K H1 H2 ∧ R K β2 H2 S1 ∧ VR K H2 β2 x d
def TIt (K : PySem.W.Frag) (f : FI) : TI := fun σ H Rr => ∃ β env S ds lv S', R K β H S ∧ ER K β H σ env ∧ f env S = some (ds, lv, S') ∧
  ∀ β' J H', Le β β' → Ext K H H' → R K β' H' S' → IterOk K β' H' J ds lv → Rr J H'
section
variable {X : Cx} {tg : Expr} {pos : Pos}
theorem PI_to {e : Expr} {t u : TI} (h : PI X tg e t) (w : ∀ σ H Q, u σ H Q → t σ H Q) : PI X tg e u := ⟨fun pins s σ H Q I q => h.run pins s σ H Q I (w _ _ _ q)⟩
def iSeq (fa : FE) : FI := fun env S => match fa env S with
  | some (.str s, S1) => some (s.cps.toList.map fun c => D.str ⟨#[c]⟩, [], S1)
  | some (.tup l, S1) => some (l, [], S1)
  | some (.ref n, S1) => match itemsAt S1 n with
    | some l => some (l, [(n, l)], S1)
    | none => none
  | _ => none
theorem iter_tup {K : PySem.W.Frag} {β : List Addr} {H : Hp} {a : Addr} {xs : List V} {ds : List D} (h : SqT K H a xs) (r : VRs K H β xs ds) : IterOk K β H (Itt K a) ds [] := by
  intro i β1 H1 S1 l x r1 _
  have h1 := x _ _ h
  have v1 := r.mono x l
  refine ⟨fun e => ⟨xs, h1, by rw [v1.length, e]; exact Nat.le_refl _⟩, fun d e => ?_⟩
  obtain ⟨v, e1, e2⟩ := v1.get e
  refine ⟨⟨xs, v, h1, e1⟩, fun y H2 q => ?_⟩
  obtain ⟨q1, q2⟩ := q
  subst q1
  rw [q2 xs h1] at e1
  cases e1
  exact ⟨β1, Le.refl _, Ext.refl _, r1, e2⟩
theorem iter_lst {K : PySem.W.Frag} {β : List Addr} {H : Hp} {n : Nat} {a : Addr} {ds : List D} (ha : β[n]? = some a) : IterOk K β H (Itl K a) ds [(n, ds)] := by
  intro i β1 H1 S1 l x r1 lv
  have h0 := lv (n, ds) List.mem_cons_self
  obtain ⟨xs, h1, v1⟩ := r1.items (l _ _ ha) h0
  refine ⟨fun e => ⟨xs, h1, by rw [v1.length, e]; exact Nat.le_refl _⟩, fun d e => ?_⟩
  obtain ⟨v, e1, e2⟩ := v1.get e
  refine ⟨⟨xs, v, h1, e1⟩, fun y H2 q => ?_⟩
  obtain ⟨q1, q2⟩ := q
  subst q1
  rw [q2 xs h1] at e1
  cases e1
  exact ⟨β1, Le.refl _, Ext.refl _, r1, e2⟩
theorem iter_str {K : PySem.W.Frag} {β : List Addr} {H : Hp} {s : Str} : IterOk K β H (Its s) (s.cps.toList.map fun c => D.str ⟨#[c]⟩) [] := by
  intro i β1 H1 S1 l x r1 _
  refine ⟨fun e => ?_, fun d e => ?_⟩
  · show s.cps.size ≤ i
    rw [e]
    simp
  · rw [List.getElem?_map] at e
    cases h : s.cps.toList[i]? with
    | none => rw [h] at e; cases e
    | some c =>
      rw [h] at e
      cases e
      have hi : i < s.cps.size := by
        have := (List.getElem?_eq_some_iff.mp h).1
        simpa using this
      refine ⟨hi, fun y H2 q => ?_⟩
      obtain ⟨q1, c', q2, q3⟩ := q
      subst q1 q3
      have : s.cps[i]? = some c := by simpa using h
      rw [this] at q2
      cases q2
      exact ⟨β1, Le.refl _, Ext.refl _, r1, .str _⟩
/-- any of three -/
theorem pi_seq {e : Expr} {fa : FE} (he : PE X e (T X.K fa)) : PI X tg e (TIt X.K (iSeq fa)) := by
  refine ⟨fun pins s σ H Q I ⟨β, env, S, ds, lv, S', r, er, h, q⟩ => ?_⟩
  unfold iSeq at h
  split at h
  · rename_i x S1 e1
    cases h
    refine (pi_str (tg := tg) he).run pins s σ H Q I ⟨β, env, S, _, _, r, er, e1, fun β1 v H1 l1 x1 r1 vr => ?_⟩
    cases vr
    exact ⟨_, rfl, q β1 _ H1 l1 x1 r1 iter_str⟩
  · rename_i l S1 e1
    cases h
    refine (pi_tup (tg := tg) he).run pins s σ H Q I ⟨β, env, S, _, _, r, er, e1, fun β1 v H1 l1 x1 r1 vr => ?_⟩
    cases vr with
    | tup h rx => exact ⟨_, rfl, ⟨_, h⟩, q β1 _ H1 l1 x1 r1 (iter_tup h rx)⟩
  · rename_i n S1 e1
    cases h1 : itemsAt S1 n with
    | none => rw [h1] at h; cases h
    | some l =>
      simp only [h1] at h
      cases h
      refine (pi_list (tg := tg) he).run pins s σ H Q I ⟨β, env, S, _, _, r, er, e1, fun β1 v H1 l1 x1 r1 vr => ?_⟩
      cases vr with
      | ref hn =>
        obtain ⟨xs, h2, v2⟩ := r1.items hn h1
        exact ⟨_, rfl, ⟨xs, h2⟩, q β1 _ H1 l1 x1 r1 (iter_lst hn)⟩
  · cases h
/-- range -/
def upTo (lo : Int) (n : Nat) : List D := (List.range n).map fun (k : Nat) => D.int (lo + (k : Int))
theorem iter_rng {K : PySem.W.Frag} {β : List Addr} {H : Hp} {lo : Int} {n : Nat} : IterOk K β H (Itr lo n) (upTo lo n) [] := by
  intro i β1 H1 S1 l x r1 _
  unfold upTo
  refine ⟨fun e => ?_, fun d e => ?_⟩
  · show n ≤ i
    rw [e]
    simp
  · rw [List.getElem?_map] at e
    by_cases hi : i < n
    · rw [List.getElem?_range hi] at e
      cases e
      refine ⟨hi, fun y H2 q => ?_⟩
      obtain ⟨q1, q2⟩ := q
      subst q1 q2
      exact ⟨β1, Le.refl _, Ext.refl _, r1, .int _⟩
    · rw [List.getElem?_eq_none (by simpa using hi)] at e
      cases e
def iRange (fa : FA) : FI := fun env S => match fa env S with
  | some ([.int j], S1) => if -(2 ^ 62) ≤ j ∧ j < 2 ^ 62 then some (upTo 0 j.toNat, [], S1) else none
  | some ([.int i, .int j], S1) => if -(2 ^ 62) ≤ i ∧ i < 2 ^ 62 ∧ -(2 ^ 62) ≤ j ∧ j < 2 ^ 62 then some (upTo i (j - i).toNat, [], S1) else none
  | _ => none
theorem pi_rng1 {a : Expr} {fa : FA} {p : Pos} (hg : Gl X "range") (hm : X.mg "range" = none) (ha : PA X [a] (TA' X.K fa)) (hs : ∀ x y, a ≠ Expr.Starred x y) (hfa : ∀ env S ds S', fa env S = some (ds, S') → ds.length = 1) : PI X tg (.Call (.Name "range" p) [a] [] pos) (TIt X.K (iRange fa)) := PI_to (pi_range1 hg hm ha (star_cons hs)) fun σ H Q ⟨β, env, S, ds, lv, S', r, er, h, q⟩ => by
  unfold iRange at h
  split at h
  · rename_i j S1 e1
    split at h
    · rename_i c
      cases h
      refine ⟨β, env, S, _, _, r, er, e1, fun β1 vs H1 l1 x1 r1 vr => ?_⟩
      obtain ⟨v, rfl, hv⟩ := one_of vr
      cases hv
      exact ⟨j, rfl, c.1, c.2, q β1 _ H1 l1 x1 r1 iter_rng⟩
    · cases h
  · rename_i e1
    have := hfa _ _ _ _ e1
    cases this
  · cases h
theorem pi_rng2 {a b : Expr} {fa : FA} {p : Pos} (hg : Gl X "range") (hm : X.mg "range" = none) (ha : PA X [a, b] (TA' X.K fa)) (hs : ∀ x y, a ≠ Expr.Starred x y) (hs2 : ∀ x y, b ≠ Expr.Starred x y) (hfa : ∀ env S ds S', fa env S = some (ds, S') → ds.length = 2) : PI X tg (.Call (.Name "range" p) [a, b] [] pos) (TIt X.K (iRange fa)) := PI_to (pi_range2 hg hm ha (by rw [star_cons hs, star_cons hs2]; rfl) (by rw [star_cons hs2]; rfl)) fun σ H Q ⟨β, env, S, ds, lv, S', r, er, h, q⟩ => by
  unfold iRange at h
  split at h
  · rename_i e1
    have := hfa _ _ _ _ e1
    cases this
  · rename_i i j S1 e1
    split at h
    · rename_i c
      cases h
      refine ⟨β, env, S, _, _, r, er, e1, fun β1 vs H1 l1 x1 r1 vr => ?_⟩
      obtain ⟨v, u, rfl, hv, hu⟩ := two_of vr
      cases hv
      cases hu
      exact ⟨i, j, rfl, c, q β1 _ H1 l1 x1 r1 iter_rng⟩
    · cases h
  · cases h
end
end MP
namespace MP
open PySem L2
/-! ### statements -/
inductive Fl where
  | next
  | ret (d : D)
  | brk
  | cont
abbrev FS := En → Sto → Option (Fl × En × Sto)
def EndOk (K : PySem.W.Frag) (β : List Addr) (H : Hp) (E : Ends) (fl : Fl) (σ : L2.St) : Prop := match fl with
  | .next => E.nx σ H
  | .ret d => ∀ v, VR K H β v d → E.rt v H
  | .brk => E.bk σ H
  | .cont => E.ct σ H
def TSt (K : PySem.W.Frag) (f : FS) : TS := fun E σ H => ∃ β env S fl env' S', R K β H S ∧ ER K β H σ env ∧ f env S = some (fl, env', S') ∧
  ∀ β' σ' H', Le β β' → Ext K H H' → R K β' H' S' → ER K β' H' σ' env' → EndOk K β' H' E fl σ'
def sNext : FS := fun env S => some (.next, env, S)
def sBrk : FS := fun env S => some (.brk, env, S)
def sCont : FS := fun env S => some (.cont, env, S)
def sNever : FS := fun _ _ => none
def sSeq (f g : FS) : FS := fun env S => match f env S with
  | some (.next, e1, S1) => g e1 S1
  | r => r
def sAsg (t : Tn) (fa : FE) : FS := fun env S => match fa env S with
  | some (d, S1) => match t.asg d env with
    | some e1 => some (.next, e1, S1)
    | none => none
  | none => none
def sExpr (fa : FE) : FS := fun env S => match fa env S with
  | some (_, S1) => some (.next, env, S1)
  | none => none
def sRet (fa : FE) : FS := fun env S => match fa env S with
  | some (d, S1) => some (.ret d, env, S1)
  | none => none
def sIf (fc : FE) (f g : FS) : FS := fun env S => match fc env S with
  | some (.bl true, S1) => f env S1
  | some (.bl false, S1) => g env S1
  | _ => none
/-- what a loop does behind a turn -/
def turnD (r : Option (Fl × En × Sto)) (k : En → Sto → Option (Fl × En × Sto)) : Option (Fl × En × Sto) := match r with
  | some (.next, e2, S2) => k e2 S2
  | some (.cont, e2, S2) => k e2 S2
  | some (.brk, e2, S2) => some (.next, e2, S2)
  | some (.ret d, e2, S2) => some (.ret d, e2, S2)
  | none => none
open Classical in
noncomputable def forD (t : Tn) (f : FS) (lv : Lv) : List D → FS
  | [] => fun env S => if Live lv S then some (.next, env, S) else none
  | d :: ds => fun env S => if Live lv S then match t.asg d env with
      | some e1 => turnD (f e1 S) (forD t f lv ds)
      | none => none
    else none
noncomputable def sFor (t : Tn) (fi : FI) (f : FS) : FS := fun env S => match fi env S with
  | some (ds, lv, S1) => forD t f lv ds env S1
  | none => none
def whileN (fc : FE) (f : FS) : Nat → FS
  | 0 => fun _ _ => none
  | n + 1 => fun env S => match fc env S with
    | some (.bl true, S1) => turnD (f env S1) (whileN fc f n)
    | some (.bl false, S1) => some (.next, env, S1)
    | _ => none
open Classical in
/-- the run of a while, however long -/
noncomputable def sWhile (fc : FE) (f : FS) : FS := fun env S => if h : ∃ r, ∃ n, whileN fc f n env S = some r then some h.choose else none
theorem turnD_some {r : Option (Fl × En × Sto)} {k : En → Sto → Option (Fl × En × Sto)} {q : Fl × En × Sto} (h : turnD r k = some q) : ∃ fl e2 S2, r = some (fl, e2, S2) ∧
    ((fl = .next ∧ k e2 S2 = some q) ∨ (fl = .cont ∧ k e2 S2 = some q) ∨ (fl = .brk ∧ q = (.next, e2, S2)) ∨ ∃ d, fl = .ret d ∧ q = (.ret d, e2, S2)) := by
  unfold turnD at h
  split at h
  · exact ⟨_, _, _, rfl, .inl ⟨rfl, h⟩⟩
  · exact ⟨_, _, _, rfl, .inr (.inl ⟨rfl, h⟩)⟩
  · cases h
    exact ⟨_, _, _, rfl, .inr (.inr (.inl ⟨rfl, rfl⟩))⟩
  · cases h
    exact ⟨_, _, _, rfl, .inr (.inr (.inr ⟨_, rfl, rfl⟩))⟩
  · cases h
theorem whileN_mono {fc : FE} {f : FS} : ∀ {n m : Nat} {env : En} {S : Sto} {r : Fl × En × Sto}, whileN fc f n env S = some r → n ≤ m → whileN fc f m env S = some r
  | 0, _, _, _, _, h, _ => by cases h
  | n + 1, 0, _, _, _, _, h => by omega
  | n + 1, m + 1, env, S, r, h, hl => by
    unfold whileN at h ⊢
    cases h1 : fc env S with
    | none => rw [h1] at h; cases h
    | some p =>
      obtain ⟨d, S1⟩ := p
      rw [h1] at h
      cases d <;> first | (simp only at h; cases h; done) | skip
      rename_i b
      cases b with
      | false => exact h
      | true =>
        simp only at h ⊢
        obtain ⟨fl, e2, S2, e, k⟩ := turnD_some h
        rw [e]
        rcases k with ⟨rfl, k⟩ | ⟨rfl, k⟩ | ⟨rfl, k⟩ | ⟨d, rfl, k⟩
        · exact whileN_mono k (Nat.le_of_succ_le_succ hl)
        · exact whileN_mono k (Nat.le_of_succ_le_succ hl)
        · rw [k]; rfl
        · rw [k]; rfl
theorem sWhile_of {fc : FE} {f : FS} {n : Nat} {env : En} {S : Sto} {r : Fl × En × Sto} (h : whileN fc f n env S = some r) : sWhile fc f env S = some r := by
  unfold sWhile
  have hx : ∃ r, ∃ n, whileN fc f n env S = some r := ⟨r, n, h⟩
  rw [dif_pos hx]
  obtain ⟨m, hm⟩ := hx.choose_spec
  have a := whileN_mono h (Nat.le_max_left n m)
  have b := whileN_mono hm (Nat.le_max_right n m)
  rw [a] at b
  exact b.symm
theorem sWhile_is {fc : FE} {f : FS} {env : En} {S : Sto} {r : Fl × En × Sto} (h : sWhile fc f env S = some r) : ∃ n, whileN fc f n env S = some r := by
  unfold sWhile at h
  split at h
  · rename_i hx
    obtain ⟨m, hm⟩ := hx.choose_spec
    cases h
    exact ⟨m, hm⟩
  · cases h
section
variable {X : Cx} {pos : Pos} {fa fc : FE} {f g : FS} {e : Expr} {st : Stmt} {sts : List Stmt}
theorem end_mono {K : PySem.W.Frag} {E : Ends} {f : FS} {σ : L2.St} {H : Hp} {β : List Addr} {env env' : En} {S S' : Sto} {fl : Fl} (r : R K β H S) (er : ER K β H σ env) (h : f env S = some (fl, env', S'))
    (q : ∀ β' σ' H', Le β β' → Ext K H H' → R K β' H' S' → ER K β' H' σ' env' → EndOk K β' H' E fl σ') : TSt K f E σ H := ⟨β, env, S, fl, env', S', r, er, h, q⟩
theorem S_nil : PSs X [] (TSt X.K sNext) := PSs.to pss_nil fun E σ H ⟨β, env, S, fl, env', S', r, er, h, q⟩ => by
  cases h
  exact q β σ H (Le.refl _) (Ext.refl _) r er
theorem S_pass : PS X (.Pass pos) (TSt X.K sNext) := PS.to ps_pass fun E σ H ⟨β, env, S, fl, env', S', r, er, h, q⟩ => by
  cases h
  exact q β σ H (Le.refl _) (Ext.refl _) r er
theorem S_brk : PS X (.Break pos) (TSt X.K sBrk) := PS.to ps_break fun E σ H ⟨β, env, S, fl, env', S', r, er, h, q⟩ => by
  cases h
  exact q β σ H (Le.refl _) (Ext.refl _) r er
theorem S_cont : PS X (.Continue pos) (TSt X.K sCont) := PS.to ps_continue fun E σ H ⟨β, env, S, fl, env', S', r, er, h, q⟩ => by
  cases h
  exact q β σ H (Le.refl _) (Ext.refl _) r er
theorem S_never : PS X st (TSt X.K sNever) := PS.to ps_never fun E σ H ⟨β, env, S, fl, env', S', r, er, h, q⟩ => by cases h
theorem S_cons (h1 : PS X st (TSt X.K f)) (h2 : PSs X sts (TSt X.K g)) : PSs X (st :: sts) (TSt X.K (sSeq f g)) := PSs.to (pss_cons h1 h2) fun E σ H ⟨β, env, S, fl, env', S', r, er, h, q⟩ => by
  unfold sSeq at h
  cases h3 : f env S with
  | none => rw [h3] at h; cases h
  | some p =>
    obtain ⟨fl1, e1, S1⟩ := p
    refine ⟨β, env, S, fl1, e1, S1, r, er, h3, fun β1 σ1 H1 l1 x1 r1 er1 => ?_⟩
    rw [h3] at h
    cases fl1 <;> simp only at h
    · exact ⟨β1, e1, S1, fl, env', S', r1, er1, h, fun β' σ' H' l x r' er' => q β' σ' H' (l1.trans l) (x1.trans x) r' er'⟩
    · cases h
      exact q β1 σ1 H1 l1 x1 r1 er1
    · cases h
      exact q β1 σ1 H1 l1 x1 r1 er1
    · cases h
      exact q β1 σ1 H1 l1 x1 r1 er1
theorem S_expr (he : PE X e (T X.K fa)) (hs : swapsWith e none pos.line X.env = pure false) : PS X (.Expr e pos) (TSt X.K (sExpr fa)) := PS.to (ps_expr he hs) fun E σ H ⟨β, env, S, fl, env', S', r, er, h, q⟩ => by
  unfold sExpr at h
  cases h3 : fa env S with
  | none => rw [h3] at h; cases h
  | some p =>
    obtain ⟨d, S1⟩ := p
    rw [h3] at h
    cases h
    exact ⟨β, env, S, d, _, r, er, h3, fun β1 v H1 l1 x1 r1 vr => q β1 σ H1 l1 x1 r1 (er.mono x1 l1)⟩
theorem S_ret (he : PE X e (T X.K fa)) : PS X (.Return (some e) pos) (TSt X.K (sRet fa)) := PS.to (ps_ret he) fun E σ H ⟨β, env, S, fl, env', S', r, er, h, q⟩ => by
  unfold sRet at h
  cases h3 : fa env S with
  | none => rw [h3] at h; cases h
  | some p =>
    obtain ⟨d, S1⟩ := p
    rw [h3] at h
    cases h
    exact ⟨β, env, S, d, _, r, er, h3, fun β1 v H1 l1 x1 r1 vr => q β1 σ H1 l1 x1 r1 (er.mono x1 l1) v vr⟩
theorem S_retN : PS X (.Return none pos) (TSt X.K (sRet (fC .non))) := PS.to ps_retN fun E σ H ⟨β, env, S, fl, env', S', r, er, h, q⟩ => by
  cases h
  exact q β σ H (Le.refl _) (Ext.refl _) r er .non .non
theorem S_if {c : Expr} {a b : List Stmt} (hc : PT X c (TB X.K (fB fc))) (ha : PSs X a (TSt X.K f)) (hb : PSs X b (TSt X.K g)) : PS X (.If c a b pos) (TSt X.K (sIf fc f g)) := PS.to (ps_if hc ha hb) fun E σ H ⟨β, env, S, fl, env', S', r, er, h, q⟩ => by
  unfold sIf at h
  split at h
  · rename_i S1 e2
    refine ⟨β, env, S, true, S1, r, er, by unfold fB; rw [e2], fun β1 H1 l1 x1 r1 => ?_⟩
    dsimp only
    rw [if_pos rfl]
    exact ⟨β1, env, S1, fl, env', S', r1, er.mono x1 l1, h, fun β' σ' H' l x r' er' => q β' σ' H' (l1.trans l) (x1.trans x) r' er'⟩
  · rename_i S1 e2
    refine ⟨β, env, S, false, S1, r, er, by unfold fB; rw [e2], fun β1 H1 l1 x1 r1 => ?_⟩
    dsimp only
    rw [if_neg (by decide)]
    exact ⟨β1, env, S1, fl, env', S', r1, er.mono x1 l1, h, fun β' σ' H' l x r' er' => q β' σ' H' (l1.trans l) (x1.trans x) r' er'⟩
  · cases h
theorem S_asg {tg : Expr} {t : Tn} (he : PE X e (T X.K fa)) (hg : PG X tg (TGt X.K t)) (hs : swapsWithSole [tg] e pos.line X.env = pure false) (hw : swappedStores [tg] e X.env = pure none) (h1 : ∀ a b, tg ≠ .Starred a b) :
    PS X (.Assign [tg] e pos) (TSt X.K (sAsg t fa)) := PS.to (ps_asg he hg hs hw (by rw [assign_cons h1]; rfl)) fun E σ H ⟨β, env, S, fl, env', S', r, er, h, q⟩ => by
  unfold sAsg at h
  cases h3 : fa env S with
  | none => rw [h3] at h; cases h
  | some p =>
    obtain ⟨d, S1⟩ := p
    simp only [h3] at h
    cases h4 : t.asg d env with
    | none => rw [h4] at h; cases h
    | some e1 =>
      rw [h4] at h
      cases h
      refine ⟨β, env, S, d, _, r, er, h3, fun β1 v H1 l1 x1 r1 vr => ?_⟩
      exact ⟨β1, env, d, env', er.mono x1 l1, vr, h4, fun σ' er' _ => q β1 σ' H1 l1 x1 r1 er'⟩
/-- the end of a loop's turn -/
theorem turn_end {K : PySem.W.Frag} {E : Ends} {Nx : L2.St → Hp → Prop} {β : List Addr} {H : Hp} {fl : Fl} {σ : L2.St} (h : match fl with
    | .next => Nx σ H
    | .cont => Nx σ H
    | .brk => E.nx σ H
    | .ret d => ∀ v, VR K H β v d → E.rt v H) : EndOk K β H { E with nx := Nx, ct := Nx, bk := E.nx } fl σ := by
  cases fl <;> exact h
theorem S_for {tg iter : Expr} {body : List Stmt} {t : Tn} {fi : FI} (hp : PassesOwn (model X.prog X.w) X.A X.env X.xe) (hc : X.calm = true) (hi : PI X tg iter (TIt X.K fi)) (hg : PG X tg (TGt X.K t)) (hb : PSs X body (TSt X.K f))
    (hs : ∀ x, foldedSetIterable iter X.env x = pure x) : PS X (.For tg iter body [] pos) (TSt X.K (sFor t fi f)) := PS.to (ps_for hp hc hi hg hb hs) fun E σ H ⟨β, env, S, fl, env', S', r, er, h, q⟩ => by
  unfold sFor at h
  cases h3 : fi env S with
  | none => rw [h3] at h; cases h
  | some p =>
    obtain ⟨ds, lv, S1⟩ := p
    simp only [h3] at h
    refine ⟨β, env, S, ds, lv, S1, r, er, h3, fun β1 J H1 l1 x1 r1 ok => ?_⟩
    refine ⟨fun i m σ2 H2 => m = ds.length - i ∧ i ≤ ds.length ∧ ∃ β2 env2 S2, Le β1 β2 ∧ Ext X.K H1 H2 ∧ R X.K β2 H2 S2 ∧ ER X.K β2 H2 σ2 env2 ∧ forD t f lv (ds.drop i) env2 S2 = some (fl, env', S'), ⟨ds.length, by simp, Nat.zero_le _, β1, env, S1, Le.refl _, Ext.refl _, r1, er.mono x1 l1, by simpa using h⟩, ?_⟩
    rintro i m σ2 H2 ⟨rfl, hi, β2, env2, S2, l2, x2, r2, er2, h2⟩
    by_cases hlt : i < ds.length
    · rw [List.drop_eq_getElem_cons hlt] at h2
      simp only [forD] at h2
      split at h2
      · rename_i live
        obtain ⟨_, k⟩ := ok i β2 H2 S2 l2 x2 r2 live
        obtain ⟨go, k⟩ := k ds[i] (List.getElem?_eq_getElem hlt)
        refine .inr ⟨go, fun σ3 H3 => ∃ β3 env3 S3, Le β1 β3 ∧ Ext X.K H1 H3 ∧ R X.K β3 H3 S3 ∧ ER X.K β3 H3 σ3 env3 ∧ forD t f lv (ds.drop (i + 1)) env3 S3 = some (fl, env', S'), fun σ3 H3 n3 => ⟨ds.length - (i + 1), by omega, rfl, hlt, n3⟩, fun x H3 y => ?_⟩
        obtain ⟨β3, l3, x3, r3, vr⟩ := k x H3 y
        cases h4 : t.asg ds[i] env2 with
        | none => rw [h4] at h2; cases h2
        | some e1 =>
          simp only [h4] at h2
          obtain ⟨fl4, e4, S4, e, k4⟩ := turnD_some h2
          refine ⟨β3, env2, ds[i], e1, er2.mono x3 l3, vr, h4, fun σ4 er4 _ => ?_⟩
          refine ⟨β3, e1, S2, fl4, e4, S4, r3, er4, e, fun β5 σ5 H5 l5 x5 r5 er5 => turn_end ?_⟩
          rcases k4 with ⟨rfl, k4⟩ | ⟨rfl, k4⟩ | ⟨rfl, k4⟩ | ⟨d, rfl, k4⟩
          · exact ⟨β5, e4, S4, (l2.trans l3).trans l5, (x2.trans x3).trans x5, r5, er5, k4⟩
          · exact ⟨β5, e4, S4, (l2.trans l3).trans l5, (x2.trans x3).trans x5, r5, er5, k4⟩
          · cases k4
            exact q β5 σ5 H5 (((l1.trans l2).trans l3).trans l5) (((x1.trans x2).trans x3).trans x5) r5 er5
          · cases k4
            exact q β5 σ5 H5 (((l1.trans l2).trans l3).trans l5) (((x1.trans x2).trans x3).trans x5) r5 er5
      · cases h2
    · have ei : i = ds.length := by omega
      subst ei
      rw [List.drop_length] at h2
      simp only [forD] at h2
      split at h2
      · rename_i live
        cases h2
        obtain ⟨k, _⟩ := ok ds.length β2 H2 _ l2 x2 r2 live
        exact .inl ⟨k rfl, q β2 σ2 H2 (l1.trans l2) (x1.trans x2) r2 er2⟩
      · cases h2
theorem S_while {c : Expr} {body : List Stmt} (hp : PassesOwn (model X.prog X.w) X.A X.env X.xe) (hc : PT X c (TB X.K (fB fc))) (hb : PSs X body (TSt X.K f)) : PS X (.While c body [] pos) (TSt X.K (sWhile fc f)) := PS.to (ps_while hp hc hb) fun E σ H ⟨β, env, S, fl, env', S', r, er, h, q⟩ => by
  obtain ⟨n, h⟩ := sWhile_is h
  refine ⟨fun m σ2 H2 => ∃ β2 env2 S2, Le β β2 ∧ Ext X.K H H2 ∧ R X.K β2 H2 S2 ∧ ER X.K β2 H2 σ2 env2 ∧ whileN fc f m env2 S2 = some (fl, env', S'), ⟨n, β, env, S, Le.refl _, Ext.refl _, r, er, h⟩, ?_⟩
  rintro m σ2 H2 ⟨β2, env2, S2, l2, x2, r2, er2, h2⟩
  cases m with
  | zero => cases h2
  | succ m =>
    unfold whileN at h2
    cases h1 : fc env2 S2 with
    | none => rw [h1] at h2; cases h2
    | some p =>
      obtain ⟨d, S3⟩ := p
      rw [h1] at h2
      cases d <;> first | (simp only at h2; cases h2; done) | skip
      rename_i b
      refine ⟨β2, env2, S2, b, S3, r2, er2, by unfold fB; rw [h1], fun β3 H3 l3 x3 r3 => ?_⟩
      cases b with
      | false =>
        simp only at h2
        cases h2
        dsimp only
        rw [if_neg (by decide)]
        exact q β3 σ2 H3 (l2.trans l3) (x2.trans x3) r3 (er2.mono x3 l3)
      | true =>
        simp only at h2
        dsimp only
        rw [if_pos rfl]
        obtain ⟨fl4, e4, S4, e, k4⟩ := turnD_some h2
        refine ⟨fun σ5 H5 => ∃ β5 env5 S5, Le β β5 ∧ Ext X.K H H5 ∧ R X.K β5 H5 S5 ∧ ER X.K β5 H5 σ5 env5 ∧ whileN fc f m env5 S5 = some (fl, env', S'), fun σ5 H5 n5 => ⟨m, Nat.lt_succ_self _, n5⟩, ?_⟩
        refine ⟨β3, env2, S3, fl4, e4, S4, r3, er2.mono x3 l3, e, fun β5 σ5 H5 l5 x5 r5 er5 => turn_end ?_⟩
        rcases k4 with ⟨rfl, k4⟩ | ⟨rfl, k4⟩ | ⟨rfl, k4⟩ | ⟨d, rfl, k4⟩
        · exact ⟨β5, e4, S4, (l2.trans l3).trans l5, (x2.trans x3).trans x5, r5, er5, k4⟩
        · exact ⟨β5, e4, S4, (l2.trans l3).trans l5, (x2.trans x3).trans x5, r5, er5, k4⟩
        · cases k4
          exact q β5 σ5 H5 ((l2.trans l3).trans l5) ((x2.trans x3).trans x5) r5 er5
        · cases k4
          exact q β5 σ5 H5 ((l2.trans l3).trans l5) ((x2.trans x3).trans x5) r5 er5
end
end MP
namespace MP
open PySem L2
/-! ### comprehensions -/
def wipeE (env : En) : List Nat → En
  | [] => env
  | v :: vs => (wipeE env vs).set v none
theorem wipe_get (σ : L2.St) : ∀ (vs : List Nat) (j : Nat), (wipe σ vs)[j]? = if j ∈ vs ∧ j < σ.length then some none else σ[j]?
  | [], j => by simp [wipe]
  | v :: vs, j => by
    unfold wipe
    by_cases hv : v = j
    · subst hv
      by_cases hl : v < σ.length
      · rw [List.getElem?_set_self (by rw [wipe_length]; exact hl), if_pos ⟨List.mem_cons_self, hl⟩]
      · rw [List.getElem?_eq_none (by rw [List.length_set, wipe_length]; omega), if_neg (fun z => hl z.2), List.getElem?_eq_none (by omega)]
    · rw [List.getElem?_set_ne hv, wipe_get σ vs j]
      by_cases h : j ∈ vs ∧ j < σ.length
      · rw [if_pos h, if_pos ⟨List.mem_cons_of_mem _ h.1, h.2⟩]
      · rw [if_neg h, if_neg (fun z => h ⟨(List.mem_cons.mp z.1).resolve_left (fun e => hv e.symm), z.2⟩)]
theorem wipeE_get (σ : En) : ∀ (vs : List Nat) (j : Nat), (wipeE σ vs).length = σ.length ∧ (wipeE σ vs)[j]? = if j ∈ vs ∧ j < σ.length then some none else σ[j]?
  | [], j => by simp [wipeE]
  | v :: vs, j => by
    unfold wipeE
    have hlen := (wipeE_get σ vs v).1
    refine ⟨by rw [List.length_set, hlen], ?_⟩
    by_cases hv : v = j
    · subst hv
      by_cases hl : v < σ.length
      · rw [List.getElem?_set_self (by rw [hlen]; exact hl), if_pos ⟨List.mem_cons_self, hl⟩]
      · rw [List.getElem?_eq_none (by rw [List.length_set, hlen]; omega), if_neg (fun z => hl z.2), List.getElem?_eq_none (by omega)]
    · rw [List.getElem?_set_ne hv, (wipeE_get σ vs j).2]
      by_cases h : j ∈ vs ∧ j < σ.length
      · rw [if_pos h, if_pos ⟨List.mem_cons_of_mem _ h.1, h.2⟩]
      · rw [if_neg h, if_neg (fun z => h ⟨(List.mem_cons.mp z.1).resolve_left (fun e => hv e.symm), z.2⟩)]
theorem ER.wipe {K : PySem.W.Frag} {β : List Addr} {H : Hp} {σ : L2.St} {env : En} (h : ER K β H σ env) (vs : List Nat) : ER K β H (L2.wipe σ vs) (wipeE env vs) := by
  refine ⟨by rw [wipe_length, (wipeE_get env vs 0).1, h.len], fun i d e => ?_⟩
  rw [(wipeE_get env vs i).2] at e
  rw [wipe_get]
  split at e
  · cases e
  · rename_i c
    rw [if_neg (by rw [h.len]; exact c)]
    exact h.at_ i d e
theorem wipe_keep {σ σ2 : L2.St} {vs l : List Nat} (k : Keep (wipe σ vs) σ2 l) (h : ∀ j ∈ l, j ∈ vs) : wipe σ2 vs = wipe σ vs := by
  apply List.ext_getElem?
  intro j
  have hl : σ2.length = σ.length := by rw [k.1, wipe_length]
  rw [wipe_get, wipe_get, hl]
  by_cases c : j ∈ vs ∧ j < σ.length
  · rw [if_pos c, if_pos c]
  · rw [if_neg c, if_neg c]
    by_cases hj : j ∈ l
    · have : ¬ j < σ.length := fun z => c ⟨h j hj, z⟩
      rw [List.getElem?_eq_none (by omega), List.getElem?_eq_none (by omega)]
    · rw [k.2 j hj, wipe_get, if_neg c]
open Classical in
/-- the turns: n the new list -/
noncomputable def lcD (n : Nat) (t : Tn) (fc fe : FE) (lv : Lv) (e0 : En) : List D → Sto → Option Sto
  | [], S => if Live lv S then some S else none
  | d :: ds, S => if Live lv S then match t.asg d e0 with
      | some e1 => match fc e1 S with
        | some (.bl true, S1) => match fe e1 S1 with
          | some (y, S2) => match S2[n]? with
            | some (.lst acc) => if acc.length < sizeLine then lcD n t fc fe lv e0 ds (S2.set n (.lst (acc ++ [y]))) else none
            | _ => none
          | none => none
        | some (.bl false, S1) => lcD n t fc fe lv e0 ds S1
        | _ => none
      | none => none
    else none
noncomputable def fLc (fi : FI) (t : Tn) (fc fe : FE) (own : List Nat) : FE := fun env S => match fi env S with
  | some (ds, lv, S1) => match lcD S1.length t fc fe lv (wipeE env own) ds (S1 ++ [.lst []]) with
    | some S2 => some (.ref S1.length, S2)
    | none => none
  | none => none
theorem T_lc0 {K : PySem.W.Frag} {fi : FI} {t : Tn} {fc fe : FE} {own : List Nat} {σ : L2.St} {H : Hp} {Q : VK} (ht : ∀ j ∈ t.ix, j ∈ own) (h : T K (fLc fi t fc fe own) σ H Q) : tLc (TIt K fi) (TGt K t) (TB K (fB fc)) (T K fe) own σ H Q := by
  obtain ⟨β, env, S, d, S', r, er, h, q⟩ := h
  unfold fLc at h
  cases h3 : fi env S with
  | none => rw [h3] at h; cases h
  | some p =>
    obtain ⟨ds, lv, S1⟩ := p
    simp only [h3] at h
    cases h4 : lcD S1.length t fc fe lv (wipeE env own) ds (S1 ++ [.lst []]) with
    | none => rw [h4] at h; cases h
    | some S2 =>
      simp only [h4] at h
      cases h
      refine ⟨β, env, S, ds, lv, S1, r, er, h3, fun β1 J H1 l1 x1 r1 ok L hL => ?_⟩
      have rn := r1.new (c := .lst []) hL ⟨[], upd_same, .nil⟩
      have xn : Ext K H1 (upd H1 L (.lst [])) := sqt_upd (.inl hL)
      have eln : (β1 ++ [L])[S1.length]? = some L := by rw [← r1.len]; simp
      have erw := (er.mono x1 l1).wipe own
      refine ⟨fun i m H2 => m = ds.length - i ∧ i ≤ ds.length ∧ ∃ β2 S3, Le (β1 ++ [L]) β2 ∧ Ext K (upd H1 L (.lst [])) H2 ∧ R K β2 H2 S3 ∧ lcD S1.length t fc fe lv (wipeE env own) (ds.drop i) S3 = some S', ⟨ds.length, by simp, Nat.zero_le _, _, _, Le.refl _, Ext.refl _, rn, by simpa using h4⟩, ?_⟩
      rintro i m H2 ⟨rfl, hi, β2, S3, l2, x2, r2, h2⟩
      by_cases hlt : i < ds.length
      · rw [List.drop_eq_getElem_cons hlt] at h2
        simp only [lcD] at h2
        split at h2
        · rename_i live
          obtain ⟨_, k⟩ := ok i β2 H2 S3 (Le.app.trans l2) (xn.trans x2) r2 live
          obtain ⟨go, k⟩ := k ds[i] (List.getElem?_eq_getElem hlt)
          refine .inr ⟨go, fun H3 => ∃ β3 S3, Le (β1 ++ [L]) β3 ∧ Ext K (upd H1 L (.lst [])) H3 ∧ R K β3 H3 S3 ∧ lcD S1.length t fc fe lv (wipeE env own) (ds.drop (i + 1)) S3 = some S', fun H3 n3 => ⟨ds.length - (i + 1), by omega, rfl, hlt, n3⟩, fun x H3 y => ?_⟩
          obtain ⟨β3, l3, x3, r3, vr⟩ := k x H3 y
          cases h4 : t.asg ds[i] (wipeE env own) with
          | none => rw [h4] at h2; cases h2
          | some e1 =>
            simp only [h4] at h2
            refine ⟨β3, wipeE env own, ds[i], e1, erw.mono ((xn.trans x2).trans x3) ((Le.app.trans l2).trans l3), vr, h4, fun σ4 er4 k4 => ⟨wipe_keep k4 ht, ?_⟩⟩
            cases h5 : fc e1 S3 with
            | none => rw [h5] at h2; cases h2
            | some p5 =>
              obtain ⟨d5, S5⟩ := p5
              rw [h5] at h2
              cases d5 <;> first | (simp only at h2; cases h2; done) | skip
              rename_i b
              refine ⟨β3, e1, S3, b, S5, r3, er4, by unfold fB; rw [h5], fun β5 H5 l5 x5 r5 => ?_⟩
              cases b with
              | false =>
                simp only at h2
                dsimp only
                rw [if_neg (by decide)]
                exact ⟨β5, S5, (l2.trans l3).trans l5, (x2.trans x3).trans x5, r5, h2⟩
              | true =>
                simp only at h2
                dsimp only
                rw [if_pos rfl]
                cases h6 : fe e1 S5 with
                | none => rw [h6] at h2; cases h2
                | some p6 =>
                  obtain ⟨y6, S6⟩ := p6
                  simp only [h6] at h2
                  refine ⟨β5, e1, S5, y6, S6, r5, er4.mono x5 l5, h6, fun β6 v6 H6 l6 x6 r6 vr6 => ?_⟩
                  cases h7 : S6[S1.length]? with
                  | none => rw [h7] at h2; cases h2
                  | some c7 =>
                    rw [h7] at h2
                    cases c7 <;> first | (simp only at h2; cases h2; done) | skip
                    rename_i acc
                    simp only at h2
                    split at h2
                    · rename_i hz
                      have e6 : β6[S1.length]? = some L := l6 _ _ (l5 _ _ (l3 _ _ (l2 _ _ eln)))
                      obtain ⟨xs, q1, q2⟩ := r6.cell _ _ _ e6 h7
                      have xw : Ext K H6 (upd H6 L (.lst (xs ++ [v6]))) := sqt_upd (.inr ⟨_, q1⟩)
                      refine ⟨xs, q1, by rw [q2.length]; exact hz, β6, _, ((l2.trans l3).trans l5).trans l6, (((x2.trans x3).trans x5).trans x6).trans xw, r6.put e6 h7 q1 (q2.app (.cons vr6 .nil)), h2⟩
                    · cases h2
        · cases h2
      · have ei : i = ds.length := by omega
        subst ei
        rw [List.drop_length] at h2
        simp only [lcD] at h2
        split at h2
        · rename_i live
          cases h2
          obtain ⟨k, _⟩ := ok ds.length β2 H2 _ (Le.app.trans l2) (xn.trans x2) r2 live
          exact .inl ⟨k rfl, q β2 (.ref L) H2 ((l1.trans Le.app).trans l2) ((x1.trans xn).trans x2) r2 (.ref (l2 _ _ eln))⟩
        · cases h2
section
variable {X : Cx} {pos : Pos}
theorem T_yes {K : PySem.W.Frag} {σ : L2.St} {H : Hp} {Q : Bool → Hp → Prop} (h : TB K (fB (fC (.bl true))) σ H Q) : tYes σ H Q := by
  obtain ⟨β, env, S, d, S', r, er, e, q⟩ := h
  cases e
  exact q β H (Le.refl _) (Ext.refl _) r
theorem PTs_nil : PTs X [] (TB X.K (fB (fC (.bl true)))) := ⟨fun pins s σ H Q I h => pts_nil.run pins s σ H Q I (T_yes h)⟩
theorem PTs_one {c : Expr} {fc : FE} (h : PT X c (TB X.K (fB fc))) : PTs X [c] (TB X.K (fB fc)) := pts_one h
/-- the context of a comprehension's block -/
def BlkAll (X : Cx) (scope : Scope) (P : Cx → Prop) : Prop := ∀ (s : Shared) (H : Hp) (C : Addr) (cl : List (Str × Addr)) (fp : List Addr), P (X.blk s H scope (compEnvC scope cl C X.env) fp)
theorem T_lc {elt tg iter : Expr} {ifs : List Expr} {scope : Scope} {own : List (Str × Nat)} {fi : FI} {t : Tn} {fc fe : FE} (hc : X.calm = true) (hN : X.N.Nodup) (hi : PI X tg iter (TIt X.K fi)) (ok : BlkOk X.N X.env.scope scope own)
    (hg : BlkAll X scope fun Y => PG Y tg (TGt X.K t)) (ht : BlkAll X scope fun Y => PTs Y ifs (TB X.K (fB fc))) (he : BlkAll X scope fun Y => PE Y elt (T X.K fe)) (hs : ∀ x, foldedSetIterable iter X.env x = pure x) (hx : ∀ j ∈ t.ix, j ∈ own.map (·.2)) :
    PE X (.ListComp elt [⟨tg, iter, ifs, 0⟩] scope pos) (T X.K (fLc fi t fc fe (own.map (·.2)))) := PE.to (pe_lc hc hN hi ok hg ht he hs) fun _ _ _ h => T_lc0 hx h
theorem S_setLc {i : Nat} {y : Str} {py spos : Pos} {elt tg iter : Expr} {ifs : List Expr} {scope : Scope} {own : List (Str × Nat)} {fi : FI} {t : Tn} {fc fe : FE} (hc : X.calm = true) (hN : X.N.Nodup) (hy : X.N[i]? = some y) (hyl : X.env.scope.names.lookup y = some .local)
    (hsw : swapsWith (.ListComp elt [⟨tg, iter, ifs, 0⟩] scope pos) (some (.Name y py)) spos.line X.env = pure true) (hi : PI X tg iter (TIt X.K fi)) (ok : BlkOk X.N X.env.scope scope own)
    (hg : BlkAll X scope fun Y => PG Y tg (TGt X.K t)) (ht : BlkAll X scope fun Y => PTs Y ifs (TB X.K (fB fc))) (he : BlkAll X scope fun Y => PE Y elt (T X.K fe)) (hs : ∀ x, foldedSetIterable iter X.env x = pure x) (hx : ∀ j ∈ t.ix, j ∈ own.map (·.2)) :
    PS X (.Assign [.Name y py] (.ListComp elt [⟨tg, iter, ifs, 0⟩] scope pos) spos) (TSt X.K (sAsg (.nm i) (fLc fi t fc fe (own.map (·.2))))) := PS.to (ps_setLc hc hN hy hyl hsw hi ok hg ht he hs) fun E σ H ⟨β, env, S, fl, env', S', r, er, h, q⟩ => by
  unfold sAsg at h
  cases h3 : fLc fi t fc fe (own.map (·.2)) env S with
  | none => rw [h3] at h; cases h
  | some p =>
    obtain ⟨d, S1⟩ := p
    simp only [h3, Tn.asg] at h
    cases h
    refine T_lc0 hx ⟨β, env, S, d, _, r, er, h3, fun β1 v H1 l1 x1 r1 vr => ?_⟩
    exact q β1 _ H1 l1 x1 r1 ((er.mono x1 l1).set i vr)
end

/-! ### methods, stores -/
def oApp : O2 := fun x y S => match x with
  | .ref n => match S[n]? with
    | some (.lst l) => if l.length < sizeLine then some (.non, S.set n (.lst (l ++ [y]))) else none
    | _ => none
  | _ => none
def oExt : O2 := fun x y S => match x, y with
  | .ref n, .ref m => match S[n]?, S[m]? with
    | some (.lst l), some (.lst k) => if l.length + k.length ≤ sizeLine then some (.non, S.set n (.lst (l ++ k))) else none
    | _, _ => none
  | _, _ => none
/-- o.m(e): the receiver a list that stands, also behind the argument -/
def fM (g : O2) (fo fa : FE) : FE := fun env S => match fo env S with
  | some (.ref n, S1) => match itemsAt S1 n with
    | some _ => match fa env S1 with
      | some (d, S2) => g (.ref n) d S2
      | none => none
    | none => none
  | _ => none
section
variable {X : Cx} {o e : Expr} {apos cpos : Pos} {fo fa : FE}
theorem T_meth {name : Str} {id : String} {r : V → List V → Hp → VK → Prop} {g : O2} (slot : Slot "list" name id) (hty : typeOf (.builtin id) = pure (.type "method_descriptor")) (hm : MtR X id r)
    (hg : ∀ x y H Q, RO X.K g x y H Q → r x [y] H Q) (ho : PE X o (T X.K fo)) (ha : PE X e (T X.K fa)) (hline : (apos.endLine == cpos.line) = true) (hbase : attributeBase o name X.env (eval o X.env) = eval o X.env) (hst : ∀ x y, e ≠ Expr.Starred x y) :
    PE X (.Call (.Attribute o name apos) [e] [] cpos) (T X.K (fM g fo fa)) :=
  PE.to (pe_bm PySem.F.plainAttrs_list slot hty hm ho (pa_cons ha pa_nil (star_cons hst)) hbase (by
    rw [star_cons hst]
    rfl) hline (star_cons hst) rfl) fun σ H Q ⟨β, env, S, d, S', r0, er, h, q⟩ => by
    unfold fM at h
    cases h1 : fo env S with
    | none => rw [h1] at h; cases h
    | some p1 =>
      obtain ⟨d1, S1⟩ := p1
      rw [h1] at h
      cases d1 <;> first | (simp only at h; cases h; done) | skip
      rename_i n
      simp only at h
      cases h5 : itemsAt S1 n with
      | none => rw [h5] at h; cases h
      | some l =>
        simp only [h5] at h
        cases h2 : fa env S1 with
        | none => rw [h2] at h; cases h
        | some p2 =>
          obtain ⟨d2, S2⟩ := p2
          simp only [h2] at h
          refine ⟨β, env, S, _, S1, r0, er, h1, fun β1 v1 H1 l1 x1 r1 vr1 => ?_⟩
          cases vr1 with
          | ref hn =>
            obtain ⟨xs, q1, q2⟩ := r1.items hn h5
            refine ⟨.inl ⟨rfl, xs, q1⟩, β1, env, S1, d2, S2, r1, er.mono x1 l1, h2, fun β2 v2 H2 l2 x2 r2 vr2 => ?_⟩
            exact hg _ _ _ _ ⟨β2, S2, _, d2, d, S', r2, .ref (l2 _ _ hn), vr2, h, fun β3 v3 H3 l3 x3 r3 vr3 => q β3 v3 H3 ((l1.trans l2).trans l3) ((x1.trans x2).trans x3) r3 vr3⟩
theorem app_r {K : PySem.W.Frag} {x y : V} {H : Hp} {Q : VK} (h : RO K oApp x y H Q) : rAppend x [y] H Q := by
  obtain ⟨β, S, d, e, r, S', R0, h1, h2, h3, q⟩ := h
  cases h1 <;> first | (simp only [oApp] at h3; cases h3; done) | skip
  rename_i a n hn
  simp only [oApp] at h3
  cases h4 : S[n]? with
  | none => rw [h4] at h3; cases h3
  | some c =>
    rw [h4] at h3
    cases c <;> first | (simp only at h3; cases h3; done) | skip
    rename_i l
    simp only at h3
    split at h3
    · rename_i hz
      cases h3
      obtain ⟨xs, q1, q2⟩ := R0.cell n a _ hn h4
      refine ⟨a, xs, y, rfl, rfl, q1, by rw [q2.length]; exact hz, ?_⟩
      exact q β _ _ (Le.refl _) (sqt_upd (.inr ⟨_, q1⟩)) (R0.put hn h4 q1 (q2.app (.cons h2 .nil))) .non
    · cases h3
theorem ext_r {K : PySem.W.Frag} {x y : V} {H : Hp} {Q : VK} (h : RO K oExt x y H Q) : rExtend x [y] H Q := by
  obtain ⟨β, S, d, e, r, S', R0, h1, h2, h3, q⟩ := h
  cases h1 <;> cases h2 <;> first | (simp only [oExt] at h3; cases h3; done) | skip
  rename_i a n hn b m hm
  simp only [oExt] at h3
  cases h4 : S[n]? with
  | none => simp only [h4] at h3; cases h3
  | some c =>
    cases h5 : S[m]? with
    | none => cases c <;> (simp only [h4, h5] at h3; cases h3)
    | some c' =>
      cases c <;> cases c' <;> first | (simp only [h4, h5] at h3; cases h3; done) | skip
      rename_i l k
      simp only [h4, h5] at h3
      split at h3
      · rename_i hz
        cases h3
        obtain ⟨xs, q1, q2⟩ := R0.cell n a _ hn h4
        obtain ⟨ys, q3, q4⟩ := R0.cell m b _ hm h5
        refine ⟨a, b, xs, ys, rfl, rfl, q1, q3, by rw [q2.length, q4.length]; exact hz, ?_⟩
        exact q β _ _ (Le.refl _) (sqt_upd (.inr ⟨_, q1⟩)) (R0.put hn h4 q1 (q2.app q4)) .non
      · cases h3
/-- a store o[i] = d -/
def putD (x i d : D) (S : Sto) : Option Sto := match x, i with
  | .ref n, .int k => match S[n]? with
    | some (.lst l) => match ixN l.length k with
      | some j => some (S.set n (.lst (l.set j d)))
      | none => none
    | _ => none
  | _, _ => none
theorem put_r {K : PySem.W.Frag} {β : List Addr} {S S' : Sto} {H : Hp} {x i v : V} {dx di d : D} (R0 : R K β H S) (h1 : VR K H β x dx) (h2 : VR K H β i di) (h3 : VR K H β v d) (e : putD dx di d S = some S') {Q : Hp → Prop}
    (q : ∀ H', Ext K H H' → R K β H' S' → Q H') : rSetL x i v H Q := by
  cases h1 <;> cases h2 <;> first | (simp only [putD] at e; cases e; done) | skip
  rename_i a n hn k
  simp only [putD] at e
  cases h4 : S[n]? with
  | none => rw [h4] at e; cases e
  | some c =>
    rw [h4] at e
    cases c <;> first | (simp only at e; cases e; done) | skip
    rename_i l
    simp only at e
    cases h5 : ixN l.length k with
    | none => rw [h5] at e; cases e
    | some j =>
      rw [h5] at e
      cases e
      obtain ⟨xs, q1, q2⟩ := R0.cell n a _ hn h4
      refine ⟨a, xs, k, j, rfl, rfl, q1, by rw [q2.length]; exact h5, ?_⟩
      exact q _ (sqt_upd (.inr ⟨_, q1⟩)) (R0.put hn h4 q1 (q2.set h3 j))
def sSub (fo fi fa : FE) : FS := fun env S => match fa env S with
  | some (d, S1) => match fo env S1 with
    | some (x, S2) => match fi env S2 with
      | some (i, S3) => match putD x i d S3 with
        | some S4 => some (.next, env, S4)
        | none => none
      | none => none
    | none => none
  | none => none
/-- the target o[i] -/
def TGsub (K : PySem.W.Frag) (fo fi : FE) : TG := fun v σ H Q => ∃ β env S d x S2 i S3 S4, R K β H S ∧ ER K β H σ env ∧ VR K H β v d ∧ fo env S = some (x, S2) ∧ fi env S2 = some (i, S3) ∧ putD x i d S3 = some S4 ∧
  ∀ β' H', Le β β' → Ext K H H' → R K β' H' S4 → Q σ H'
theorem TG_sub {i : Expr} {fi : FE} {pos : Pos} (ho : PE X o (T X.K fo)) (hi : PE X i (T X.K fi)) (ha : ∀ v, assign (.Subscript o i pos) X.env v = (do
      let ov ← holding [v] (eval o X.env)
      let iv ← holding [v, ov] (eval i X.env)
      standAt pos
      holding [v, ov, iv] (setItem ov iv v)
      release [v, ov, iv] [])) : PG X (.Subscript o i pos) (TGsub X.K fo fi) := PG_to (pg_sub ho hi set_list ha) fun v σ H Q ⟨β, env, S, d, x, S2, di, S3, S4, r, er, vr, h1, h2, h3, q⟩ => by
  refine ⟨β, env, S, x, S2, r, er, h1, fun β1 v1 H1 l1 x1 r1 vr1 => ?_⟩
  refine ⟨β1, env, S2, di, S3, r1, er.mono x1 l1, h2, fun β2 v2 H2 l2 x2 r2 vr2 => ?_⟩
  exact put_r r2 (vr1.mono x2 l2) vr2 (vr.mono (x1.trans x2) (l1.trans l2)) h3 fun H' x3 r3 => q β2 H' (l1.trans l2) ((x1.trans x2).trans x3) r3
theorem S_sub {tg : Expr} {fi : FE} {pos : Pos} (he : PE X e (T X.K fa)) (hg : PG X tg (TGsub X.K fo fi)) (hs : swapsWithSole [tg] e pos.line X.env = pure false) (hw : swappedStores [tg] e X.env = pure none) (h1 : ∀ a b, tg ≠ .Starred a b) :
    PS X (.Assign [tg] e pos) (TSt X.K (sSub fo fi fa)) := PS.to (ps_asg he hg hs hw (by rw [assign_cons h1]; rfl)) fun E σ H ⟨β, env, S, fl, env', S', r, er, h, q⟩ => by
  unfold sSub at h
  cases h3 : fa env S with
  | none => rw [h3] at h; cases h
  | some p =>
    obtain ⟨d, S1⟩ := p
    simp only [h3] at h
    cases h4 : fo env S1 with
    | none => rw [h4] at h; cases h
    | some p4 =>
      obtain ⟨x, S2⟩ := p4
      simp only [h4] at h
      cases h5 : fi env S2 with
      | none => rw [h5] at h; cases h
      | some p5 =>
        obtain ⟨i, S3⟩ := p5
        simp only [h5] at h
        cases h6 : putD x i d S3 with
        | none => rw [h6] at h; cases h
        | some S4 =>
          rw [h6] at h
          cases h
          refine ⟨β, env, S, d, S1, r, er, h3, fun β1 v H1 l1 x1 r1 vr => ?_⟩
          exact ⟨β1, _, S1, d, x, S2, i, S3, _, r1, er.mono x1 l1, vr, h4, h5, h6, fun β' H' l x r' => q β' σ H' (l1.trans l) (x1.trans x) r' (er.mono (x1.trans x) (l1.trans l))⟩
/-- o[i], name = e (a pair) -/
def sSubV (fo fi : FE) (j : Nat) (fa : FE) : FS := fun env S => match fa env S with
  | some (.tup [d, c], S1) => match fo env S1 with
    | some (x, S2) => match fi env S2 with
      | some (i, S3) => match putD x i d S3 with
        | some S4 => some (.next, env.set j (some c), S4)
        | none => none
      | none => none
    | none => none
  | _ => none
theorem S_subV {t1 t2 : Expr} {fi : FE} {j k : Nat} {pos tpos : Pos} (hc : X.calm = true) (he : PE X e (T X.K fa)) (hg1 : PG X t1 (TGsub X.K fo fi)) (hg2 : PG X t2 (TGt X.K (.nm j))) (hs : swapsWithSole [.Tuple [t1, t2] k tpos] e pos.line X.env = pure false) (hw : swappedStores [.Tuple [t1, t2] k tpos] e X.env = pure none)
    (h1 : ∀ a b, t1 ≠ .Starred a b) (h2 : ∀ a b, t2 ≠ .Starred a b) : PS X (.Assign [.Tuple [t1, t2] k tpos] e pos) (TSt X.K (sSubV fo fi j fa)) := PS.to (ps_asg he (pg_tup (n := 2) hc (pgs_cons hg1 (pgs_cons hg2 pgs_nil (by rw [assign_cons h2]; rfl)) (by rw [assign_cons h1]; rfl)) (by rw [assign_cons h1, assign_cons h2]; rfl) (by rw [assign_cons h1, assign_cons h2]; rfl)) hs hw) fun E σ H ⟨β, env, S, fl, env', S', r, er, h, q⟩ => by
  unfold sSubV at h
  split at h
  · rename_i d c S1 h3
    cases h4 : fo env S1 with
    | none => rw [h4] at h; cases h
    | some p4 =>
      obtain ⟨x, S2⟩ := p4
      simp only [h4] at h
      cases h5 : fi env S2 with
      | none => rw [h5] at h; cases h
      | some p5 =>
        obtain ⟨i, S3⟩ := p5
        simp only [h5] at h
        cases h6 : putD x i d S3 with
        | none => rw [h6] at h; cases h
        | some S4 =>
          rw [h6] at h
          cases h
          refine ⟨β, env, S, _, S1, r, er, h3, fun β1 v H1 l1 x1 r1 vr => ?_⟩
          cases vr with
          | @tup a xs _ hx rx =>
            obtain ⟨v1, v2, rfl, rv1, rv2⟩ := two_of rx
            refine ⟨a, [v1, v2], rfl, hx, rfl, v1, [v2], rfl, β1, _, S1, d, x, S2, i, S3, _, r1, er.mono x1 l1, rv1, h4, h5, h6, fun β' H' l x r' => ?_⟩
            refine ⟨v2, [], rfl, β', env, c, _, er.mono (x1.trans x) (l1.trans l), rv2.mono x l, by simp only [Tn.asg], fun σ' er' _ => ⟨rfl, q β' σ' H' (l1.trans l) (x1.trans x) r' er'⟩⟩
  · cases h
end
namespace Spl
theorem vr_strs {K : PySem.W.Frag} {H : Hp} {β : List Addr} : ∀ ys : List Str, VRs K H β (ys.map V.str) (ys.map D.str)
  | [] => .nil
  | y :: r => .cons (.str y) (vr_strs r)
end Spl
/-- a.split(b) -/
def oSplit : O2 := fun x y S => match x, y with
  | .str a, .str b => if (b.length == 0) = false ∧ a.length + 2 ≤ sizeLine then newL ((Txt.split a b).map D.str) S else none
  | _, _ => none
theorem T_split {X : Cx} {o e : Expr} {apos cpos : Pos} {fo fa : FE} (ho : PE X o (T X.K fo)) (ha : PE X e (T X.K fa)) (hline : (apos.endLine == cpos.line) = true) (hbase : attributeBase o "split" X.env (eval o X.env) = eval o X.env) (hst : ∀ x y, e ≠ Expr.Starred x y) :
    PE X (.Call (.Attribute o "split" apos) [e] [] cpos) (T X.K (f2 oSplit fo fa)) := PE.to (pe_splitAny ho ha (by rw [star_cons hst]; rfl) hbase hline) fun σ H Q ⟨β, env, S, d, S', r0, er, h, q⟩ => by
  unfold f2 at h
  cases h1 : fo env S with
  | none => rw [h1] at h; cases h
  | some p1 =>
    obtain ⟨d1, S1⟩ := p1
    simp only [h1] at h
    cases h2 : fa env S1 with
    | none => rw [h2] at h; cases h
    | some p2 =>
      obtain ⟨d2, S2⟩ := p2
      simp only [h2] at h
      unfold oSplit at h
      split at h
      · rename_i a b
        split at h
        · rename_i c
          obtain ⟨z, e1, e2⟩ := newL_ok h
          subst e1 e2
          refine ⟨β, env, S, _, S1, r0, er, h1, fun β1 v1 H1 l1 x1 r1 vr1 => ?_⟩
          cases vr1
          refine ⟨⟨a, rfl⟩, β1, env, S1, _, S2, r1, er.mono x1 l1, h2, fun β2 v2 H2 l2 x2 r2 vr2 => ?_⟩
          cases vr2
          exact .inl ⟨a, b, rfl, rfl, c.1, c.2, fun p hp => out_lst r2 (Spl.vr_strs _) hp fun β3 v3 H3 l3 x3 r3 vr3 => q β3 v3 H3 ((l1.trans l2).trans l3) ((x1.trans x2).trans x3) r3 vr3⟩
        · cases h
      · cases h
end MP
namespace MP
open PySem L2 PySem.Spec PyProof.Rows
/-! ### rows: zip, enumerate -/
/-- an iterator that hands out n new tuples, as long as Src -/
def ItR (n : Nat) (Src : Hp → Prop) (Row : Hp → Nat → List V → Prop) : It :=
  ⟨fun i H => i < n ∧ Src H, fun i H x H' => ∃ T row, x = .ref T ∧ H T = none ∧ Row H i row ∧ H' = upd H T (.tup row), fun i H => i = n ∧ Src H⟩
theorem turn_rows {P : Program} {w : World} {K : PySem.W.Frag} {tg : Expr} {fp : List Addr} {it : Addr} {n : Nat} {own : Nat → Heap → Prop} {Src : Hp → Prop} {Row : Hp → Nat → List V → Prop} (hm : it ∈ fp)
    (ho : ∀ i h, own i h → ∀ b ∈ fp, ∃ o, h.get? b = some o ∧ ∀ v, o.data ≠ .cell v) (hk : ∀ i h h', own i h → (∀ b ∈ fp, ∀ o, h.get? b = some o → h'.get? b = some o) → own i h')
    (hG : ∀ (X : Cx), X.prog = P → X.w = w → X.K = K → X.calm = true → ∀ (pins : List (Addr × Obj)) (s : Shared) (σ : L2.St) (H : Hp) (i : Nat), L2.Inv X pins σ H s → own i s.heap → Src H →
      ∃ (gp wr : List Addr) (Y : Nat → Heap → Value → Heap → Prop) (St : Nat → Heap → Prop), GoesN P w X.A tg it gp wr n Y St ∧ St i s.heap ∧ (∀ j h, St j h → own j h) ∧ (∀ b ∈ wr, b ∈ fp) ∧
        ∀ j h0 v h, j < n → Y j h0 v h → ∃ T us row, v = .ref T ∧ h0.objs.size ≤ T ∧ h.IsTuple T us ∧ Vals row us.toList ∧ Row H j row ∧ row.length ≤ sizeLine)
    (hs : ∀ (A : Around) (i : Nat) (s : Shared) (Q : Value → Shared → Prop) (E : Value → Shared → Prop), own i s.heap → Q (.ref it) s → wpAny (model P w) A (pyIter (.ref it)) Q E s) :
    Turn P w K tg (ItR n Src Row) fp it own where
  mem := hm
  obj := ho
  keep := hk
  item := by
    intro X hP hw hK hc i pins s σ H E I hf st hg
    subst hP hw hK
    obtain ⟨gp, wr, Y, St, G, st1, so, sub, yy⟩ := hG X rfl rfl rfl hc pins s σ H i I st hg.2
    refine G.goes i s _ E hg.1 st1 fun v h' tk hY st' hkp _ => ?_
    obtain ⟨T, us, row, rfl, hT, ht, hv, hrow, hz⟩ := yy i _ v h' hg.1 hY
    have hn : H T = none := I.hok.fresh hT
    have new : ObjOk X.prog X.w (upd H T (.tup row)) h' T (.tup row) := ⟨hz, us.toList, hv, by
      have e : us.toList.toArray = us := by simp
      rw [e]
      exact ht⟩
    refine ⟨.ref T, _, I.turnedNew (ch := fp) (fun b o hb e => hkp b o (fun z => hb (sub b z)) e) hf hT new, rfl, ⟨T, row, rfl, hn, hrow, rfl⟩, so _ _ st', fun b hb => ?_⟩
    obtain ⟨o, e, _⟩ := ho _ _ st b hb
    rw [upd_ne (Nat.ne_of_lt (Nat.lt_of_lt_of_le (Heap.lt_size e) hT))]
    exact (hf b hb).1
  done := by
    intro X hP hw hK hc i pins s σ H E I hf st hg
    subst hP hw hK
    obtain ⟨e, hsrc⟩ := hg
    subst e
    obtain ⟨gp, wr, Y, St, G, st1, so, sub, yy⟩ := hG X rfl rfl rfl hc pins s σ H _ I st hsrc
    exact G.stops s _ E st1 fun h' tk hkp _ => I.turnedL (ch := fp) (fun b o hb e => hkp b o (fun z => hb (sub b z)) e) hf
  self := hs
/-- a sequence that is drawn: a list, a tuple -/
inductive Sk | l | t
def Sk.itc (h : Heap) (it a : Addr) (i : Nat) : Sk → Prop
  | .l => h.IsListIter it a i
  | .t => h.IsTupleIter it a i
def Sk.sq (h : Heap) (a : Addr) (us : Array Value) : Sk → Prop
  | .l => h.IsList a us
  | .t => h.IsTuple a us
def Sk.at_ (K : PySem.W.Frag) (H : Hp) (a : Addr) (xs : List V) : Sk → Prop
  | .l => SqL K H a xs
  | .t => SqT K H a xs
def Sk.obj (a : Addr) : Sk → Obj
  | .l => { cls := .type "list_iterator", data := .fields #[.ref a, .int 0 0] }
  | .t => { cls := .type "tuple_iterator", data := .fields #[.ref a, .int 0 0] }
theorem Sk.draws {prog : Program} {w : World} {A : Around} (hh : A.handled = none) (it a : Addr) (hne : a ≠ it) (us : Array Value) : ∀ k : Sk, Draws prog w A it [it, a] us.size (fun i v => us[i]? = some v) (fun i h => k.itc h it a i ∧ k.sq h a us)
  | .l => Draws.list hh it a hne us
  | .t => Draws.tuple hh it a hne us
theorem Sk.begins (a : Addr) (us : Array Value) : ∀ k : Sk, Begins (.ref a) (k.obj a) fun h => k.sq h a us
  | .l => begins_list a us
  | .t => begins_tuple a us
theorem Sk.start {h : Heap} {it a : Addr} : ∀ k : Sk, h.get? it = some (k.obj a) → k.itc h it a 0
  | .l, e => ⟨_, e, rfl, rfl⟩
  | .t, e => ⟨_, e, rfl, rfl⟩
theorem Sk.cellless {h : Heap} {it a : Addr} {i : Nat} : ∀ k : Sk, k.itc h it a i → ∃ o, h.get? it = some o ∧ ∀ v, o.data ≠ .cell v
  | .l, ⟨o, e, _, d⟩ => ⟨o, e, fun v z => by rw [d] at z; cases z⟩
  | .t, ⟨o, e, _, d⟩ => ⟨o, e, fun v z => by rw [d] at z; cases z⟩
theorem Sk.stay {h h' : Heap} {it a : Addr} {i : Nat} (q : ∀ o, h.get? it = some o → h'.get? it = some o) : ∀ k : Sk, k.itc h it a i → k.itc h' it a i
  | .l, x => Heap.IsListIter.at x q
  | .t, x => Heap.IsTupleIter.at x q
section
variable {X : Cx} {pins : List (Addr × Obj)} {σ : L2.St} {H : Hp} {s : Shared}
theorem Sk.inv (I : L2.Inv X pins σ H s) {a : Addr} {xs : List V} : ∀ k : Sk, k.at_ X.K H a xs → ∃ us : List Value, Vals xs us ∧ k.sq s.heap a us.toArray ∧ a < s.heap.objs.size
  | .l, h => by
    obtain ⟨us, r, p, _⟩ := I.list h
    exact ⟨us, r, p.isList, p.lt⟩
  | .t, h => by
    obtain ⟨us, r, p, _⟩ := I.tuple h
    obtain ⟨o, e, _⟩ := id p
    exact ⟨us, r, p, Heap.lt_size e⟩
end
/-- the sequence of a value, and what has to stand meanwhile -/
def seqLv (S : Sto) : D → Option (List D × Lv)
  | .tup l => some (l, [])
  | .ref n => match itemsAt S n with
    | some l => some (l, [(n, l)])
    | none => none
  | _ => none
/-- at every later state: there the sequence stands -/
theorem seqLv_ok {K : PySem.W.Frag} {β : List Addr} {H : Hp} {S : Sto} (r : R K β H S) {v : V} {d : D} {l : List D} {lv : Lv} (h : VR K H β v d) (e : seqLv S d = some (l, lv)) :
    ∃ (k : Sk) (a : Addr) (xs : List V), v = .ref a ∧ k.at_ K H a xs ∧ VRs K H β xs l ∧ ∀ β1 H1 S1, Le β β1 → Ext K H H1 → R K β1 H1 S1 → Live lv S1 → ∃ ys, k.at_ K H1 a ys ∧ VRs K H1 β1 ys l := by
  cases h <;> first | (simp only [seqLv] at e; cases e; done) | skip
  · rename_i a xs ds hx rx
    simp only [seqLv] at e
    cases e
    exact ⟨.t, a, xs, rfl, hx, rx, fun β1 H1 S1 l x r1 _ => ⟨xs, x _ _ hx, rx.mono x l⟩⟩
  · rename_i a n hn
    simp only [seqLv] at e
    cases h1 : itemsAt S n with
    | none => rw [h1] at e; cases e
    | some l1 =>
      rw [h1] at e
      cases e
      obtain ⟨xs, q1, q2⟩ := r.items hn h1
      exact ⟨.l, a, xs, rfl, q1, q2, fun β1 H1 S1 l x r1 lv => r1.items (l _ _ hn) (lv _ List.mem_cons_self)⟩
theorem sk_inj {X : Cx} {pins : List (Addr × Obj)} {σ : L2.St} {H : Hp} {s : Shared} (I : L2.Inv X pins σ H s) {a : Addr} {xs ys : List V} : ∀ k : Sk, k.at_ X.K H a xs → k.at_ X.K H a ys → xs = ys
  | .l, h, h' => I.list_inj h h'
  | .t, h, h' => I.tuple_inj h h'

def enumD : Nat → List D → List D
  | _, [] => []
  | k, d :: ds => .tup [.int (k : Int), d] :: enumD (k + 1) ds
theorem enumD_get : ∀ (k : Nat) (l : List D) (i : Nat), (enumD k l)[i]? = (l[i]?).map fun d => .tup [.int ((k : Int) + (i : Int)), d]
  | _, [], i => by simp [enumD]
  | k, d :: ds, 0 => by simp [enumD]
  | k, d :: ds, i + 1 => by
    simp only [enumD, List.getElem?_cons_succ]
    rw [enumD_get (k + 1) ds i]
    congr 1
    funext e
    congr 3
    omega
theorem enumD_len : ∀ (k : Nat) (l : List D), (enumD k l).length = l.length
  | _, [] => rfl
  | k, d :: ds => by simp [enumD, enumD_len (k + 1) ds]
def iEnumD (fa : FA) : FI := fun env S => match fa env S with
  | some ([d], S1) => match seqLv S1 d with
    | some (l, lv) => some (enumD 0 l, lv, S1)
    | none => none
  | _ => none
/-- an iterator over rows yields the rows' data -/
theorem iter_rows {K : PySem.W.Frag} {β : List Addr} {H : Hp} {Src : Hp → Prop} {Row : Hp → Nat → List V → Prop} {n : Nat} {ds : List D} {lv : Lv} (hn : ds.length = n)
    (hS : ∀ β1 H1 S1, Le β β1 → Ext K H H1 → R K β1 H1 S1 → Live lv S1 → Src H1 ∧ ∀ (i : Nat) (d : D) (row : List V), ds[i]? = some d → Row H1 i row → ∃ es, d = .tup es ∧ VRs K H1 β1 row es) : IterOk K β H (ItR n Src Row) ds lv := by
  intro i β1 H1 S1 l x r1 hl
  obtain ⟨src, hr⟩ := hS β1 H1 S1 l x r1 hl
  refine ⟨fun e => ⟨by omega, src⟩, fun d e => ⟨⟨by rw [← hn]; exact (List.getElem?_eq_some_iff.mp e).1, src⟩, fun y H2 q => ?_⟩⟩
  obtain ⟨T, row, rfl, hT, hrow, rfl⟩ := q
  obtain ⟨es, rfl, vr⟩ := hr i d row e hrow
  have xt : Ext K H1 (upd H1 T (.tup row)) := sqt_upd (.inl hT)
  exact ⟨β1, Le.refl _, xt, r1.tup hT, .tup (SqT.of upd_same) (vr.mono xt (Le.refl _))⟩
section
variable {prog : Program} {w : World} {A : Around} {E : Value → Shared → Prop} {s : Shared}
theorem enum1_meets {v : Value} {o : Obj} {H : Heap → Prop} (B : Begins v o H) :
    Meets (Builtin.«enumerate.__new__» ⟨[.type "enumerate", v], []⟩) (fun _ R s => H s.heap ∧
      R (.ok (.ret (.ref (s.heap.push o).objs.size))) { s with heap := (s.heap.push o).push { cls := .type "enumerate", data := .fields #[.none, .bool false, .ref s.heap.objs.size, rawInt 0, .none, .none] } }) := by
  refine .of_wp ?_
  intro prog w A R s ⟨h1, h⟩
  obtain ⟨hp, g, d, tk, os⟩ := s
  have hsub := sub_enumerate
  have q1 : ∀ {A' : Around} {E Q : Value → Shared → Prop}, Q (.ref hp.objs.size) ⟨hp.push o, g, d, tk, os⟩ → wpAny (model prog w) A' (pyIter v) Q E ⟨hp, g, d, tk, os⟩ := fun q => B.iter prog w _ _ ⟨hp, g, d, tk, os⟩ _ h1 q
  wp_walk using q1
  refine wpAny_stack_any fun st => wpAny_pure ?_
  split
  · rename_i c _ _ _ _ _
    cases (c == Value.type "enumerate") <;> (wp_walk using q1; exact ⟨_, rfl, h⟩)
  · wp_walk using q1
    exact ⟨_, rfl, h⟩
theorem enum1_begins {v : Value} {o : Obj} {H : Heap → Prop} {Q : Value → Shared → Prop} (B : Begins v o H) (h1 : H s.heap)
    (h : ∀ h', IsEnum h' (s.heap.objs.size + 1) s.heap.objs.size 0 .none → h'.get? s.heap.objs.size = some o → h'.objs.size = s.heap.objs.size + 2 → (∀ b u, s.heap.get? b = some u → h'.get? b = some u) → Q (.ref (s.heap.objs.size + 1)) { s with heap := h' }) :
    wpAny (model prog w) A (call (.type "enumerate") [v]) Q E s := by
  refine callType_new F.called_enumerate (by decide) (F.typeCall_enumerate_1 _) (F.newCall_enumerate_1 _) (fun ob => F.args_object_init_2 ob _) F.entry_enumerate_new (enum1_meets B) ⟨h1, ?_⟩
  have hz : (s.heap.push o).objs.size = s.heap.objs.size + 1 := Heap.size_push ..
  show _ ∧ _
  rw [hz]
  have he := Heap.get?_push_size (s.heap.push o) (o := { cls := .type "enumerate", data := .fields #[.none, .bool false, .ref s.heap.objs.size, rawInt 0, .none, .none] }) rfl
  rw [hz] at he
  exact ⟨⟨_, he, rfl⟩, h _ he (Heap.get?_push_of_some _ (Heap.get?_push_size _ B.free)) (by rw [Heap.size_push, hz]) fun b u x => Heap.get?_push_of_some _ (Heap.get?_push_of_some _ x)⟩
end
section
variable {X : Cx} {e : Expr} {fa : FA} {p pos tpos : Pos} {elts : List Expr} {kk : Nat}
theorem pi_enumD (hg : Gl X "enumerate") (hm : X.mg "enumerate" = none) (ha : PA X [e] (TA' X.K fa)) (hst : ∀ x y, e ≠ Expr.Starred x y) (hc : X.calm = true) : PI X (.Tuple elts kk tpos) (.Call (.Name "enumerate" p) [e] [] pos) (TIt X.K (iEnumD fa)) := by
  refine ⟨fun pins s σ H Rr I ⟨β, env, S, ds, lv, S', r, er, h, q⟩ => ?_⟩
  refine Call_ (ld_blt I hg hm PyProof.Rows.boot_enumerate (PyProof.Rows.callWith_type1 ?_ (star_cons hst) rfl))
  unfold iEnumD at h
  split at h
  · rename_i d S1 e1
    cases hq : seqLv S1 d with
    | none => rw [hq] at h; cases h
    | some pq =>
      obtain ⟨l, lv'⟩ := pq
      rw [hq] at h
      cases h
      refine thn (ha.run pos pins s σ H (fun vs H1 => ∃ v, vs = [v] ∧ ∃ β1, Le β β1 ∧ Ext X.K H H1 ∧ R X.K β1 H1 S' ∧ VR X.K H1 β1 v d) I ⟨β, env, S, _, _, r, er, e1, fun β1 vs H1 l1 x1 r1 vr => ?_⟩) ?_
      · obtain ⟨v, rfl, hv⟩ := one_of vr
        exact ⟨v, rfl, β1, l1, x1, r1, hv⟩
      · rintro us s1 ⟨vs, H1, I1, rv, v, rfl, β1, l1, x1, r1, vr⟩
        obtain ⟨u, rfl, ru⟩ := vals1 rv
        obtain ⟨k, a, xs, rfl, hx, vx, hlater⟩ := seqLv_ok r1 vr hq
        cases (show u = Value.ref a from ru)
        obtain ⟨vs, rvs, hsq, hlt⟩ := Sk.inv I1 k hx
        refine enum1_begins (k.begins a vs.toArray) hsq fun h' he hit hsz hk => wpAny_pyIter_enum he ?_
        have I2 : L2.Inv X pins σ H1 { s1 with heap := h' } := I1.kept (t' := s1.toks) hk
        refine ⟨s1.heap.objs.size + 1, [s1.heap.objs.size + 1, s1.heap.objs.size], _, _, H1, rfl, I2, turn_rows (n := l.length) (own := fun i h => (∃ old, IsEnum h (s1.heap.objs.size + 1) s1.heap.objs.size (0 + (i : Int)) old) ∧ k.itc h s1.heap.objs.size a i) (Src := fun H => ∃ xs, k.at_ X.K H a xs ∧ xs.length = l.length) (Row := fun H i row => ∀ xs, k.at_ X.K H a xs → row = V.int (0 + (i : Int)) :: (xs[i]?).toList) (by simp) ?_ ?_ ?_ ?_, ⟨⟨_, by simpa using he⟩, k.start hit⟩, fun b hb => ?_, ?_⟩
        · rintro i h ⟨⟨old, h1⟩, h2⟩ b hb
          have e' : b = s1.heap.objs.size + 1 ∨ b = s1.heap.objs.size := by simpa using hb
          rcases e' with z | z
          · rw [z]
            exact ⟨_, h1, fun v q => nomatch q⟩
          · rw [z]
            exact k.cellless h2
        · rintro i h h2 ⟨⟨old, q1⟩, q2⟩ hkp
          exact ⟨⟨old, hkp _ (by simp) _ q1⟩, k.stay (fun o z => hkp _ (by simp) o z) q2⟩
        · intro Y hP hw hK hc' pins s σ H i J ow hsrc
          rw [← hK] at hsrc
          obtain ⟨xs, hx2, lx⟩ := hsrc
          obtain ⟨us, rvu, hsu, hlu⟩ := Sk.inv J k hx2
          have hne : a ≠ s1.heap.objs.size := Nat.ne_of_lt hlt
          have hmem : s1.heap.objs.size + 1 ∉ [s1.heap.objs.size, a] := fun z => by
            have e' : s1.heap.objs.size + 1 = s1.heap.objs.size ∨ s1.heap.objs.size + 1 = a := by simpa using z
            rcases e' with z | z
            · exact absurd z (Nat.succ_ne_self _)
            · rw [← z] at hlt
              exact absurd hlt (Nat.not_lt.mpr (Nat.le_succ _))
          have hln : us.toArray.size = l.length := by
            rw [← lx]
            simpa using rvu.length.symm
          refine ⟨_, _, _, _, hln ▸ GoesN.enumFrom (x1 := kk) (pos := tpos) (elts := elts) 0 (k.draws (prog := X.prog) (w := X.w) (A := Y.A.in1) (J.ok.hd hc') s1.heap.objs.size a hne us.toArray) (s1.heap.objs.size + 1) (Nat.succ_ne_self _) hmem (by simp), ⟨ow.1, ow.2, hsu⟩, fun j h z => ⟨z.1, z.2.1⟩, fun b hb => by simpa using hb, ?_⟩
          · rintro j h0 v h hj ⟨T, t, x, rfl, hT, hx, ht⟩
            have hxs : j < xs.length := by rw [lx]; exact hj
            obtain ⟨u, hu, ru⟩ := rvu.get (List.getElem?_eq_getElem hxs)
            have hx' : us[j]? = some x := by simpa using hx
            rw [hu] at hx'
            cases hx'
            refine ⟨T, _, [V.int (0 + (j : Int)), xs[j]], rfl, hT, ht, .cons ⟨t, rfl⟩ (.cons ru .nil), fun ys hy => ?_, by show 2 ≤ sizeLine; decide⟩
            rw [← hK] at hy
            rw [sk_inj J k hy hx2, List.getElem?_eq_getElem hxs]
            rfl
        · rintro A i s Q E ⟨⟨old, h1⟩, _⟩ hq
          exact wpAny_pyIter_enum h1 hq
        · have e' : b = s1.heap.objs.size + 1 ∨ b = s1.heap.objs.size := by simpa using hb
          have hle : s1.heap.objs.size ≤ b := by
            rcases e' with z | z
            · rw [z]; exact Nat.le_succ _
            · rw [z]; exact Nat.le_refl _
          exact I1.fpOk hle (I1.hok.fresh hle)
        · refine q β1 _ H1 l1 x1 r1 (iter_rows (enumD_len 0 l) fun β2 H2 S2 l2 x2 r2 lv => ?_)
          obtain ⟨ys, h1, v1⟩ := hlater β2 H2 S2 l2 x2 r2 lv
          refine ⟨⟨ys, h1, v1.length⟩, fun i d row hd hrow => ?_⟩
          rw [enumD_get] at hd
          cases hl : l[i]? with
          | none => rw [hl] at hd; cases hd
          | some dd =>
            rw [hl] at hd
            cases hd
            obtain ⟨v, q1, q2⟩ := v1.get hl
            refine ⟨_, rfl, ?_⟩
            rw [hrow ys h1, q1]
            simp only [Int.natCast_zero]
            exact .cons (.int _) (.cons q2 .nil)
  · cases h
end
end MP
namespace MP
open PySem L2 PySem.Spec PyProof.Rows
def zipD2 (as bs : List D) : List D := match as, bs with
  | a :: as, b :: bs => .tup [a, b] :: zipD2 as bs
  | _, _ => []
def zipD3 (as bs cs : List D) : List D := match as, bs, cs with
  | a :: as, b :: bs, c :: cs => .tup [a, b, c] :: zipD3 as bs cs
  | _, _, _ => []
theorem zipD2_len : ∀ (as bs : List D), (zipD2 as bs).length = min as.length bs.length
  | [], bs => by simp [zipD2]
  | a :: as, [] => by simp [zipD2]
  | a :: as, b :: bs => by simp [zipD2, zipD2_len as bs]
theorem zipD3_len : ∀ (as bs cs : List D), (zipD3 as bs cs).length = min (min as.length bs.length) cs.length
  | [], bs, cs => by simp [zipD3]
  | a :: as, [], cs => by simp [zipD3]
  | a :: as, b :: bs, [] => by simp [zipD3]
  | a :: as, b :: bs, c :: cs => by simp [zipD3, zipD3_len as bs cs]
theorem zipD2_get : ∀ (as bs : List D) (i : Nat) (d : D), (zipD2 as bs)[i]? = some d → ∃ x y, as[i]? = some x ∧ bs[i]? = some y ∧ d = .tup [x, y]
  | [], bs, i, d, h => by simp [zipD2] at h
  | a :: as, [], i, d, h => by simp [zipD2] at h
  | a :: as, b :: bs, 0, d, h => by
    simp [zipD2] at h
    exact ⟨a, b, rfl, rfl, h.symm⟩
  | a :: as, b :: bs, i + 1, d, h => by
    simp only [zipD2, List.getElem?_cons_succ] at h
    simpa using zipD2_get as bs i d h
theorem zipD3_get : ∀ (as bs cs : List D) (i : Nat) (d : D), (zipD3 as bs cs)[i]? = some d → ∃ x y z, as[i]? = some x ∧ bs[i]? = some y ∧ cs[i]? = some z ∧ d = .tup [x, y, z]
  | [], bs, cs, i, d, h => by simp [zipD3] at h
  | a :: as, [], cs, i, d, h => by simp [zipD3] at h
  | a :: as, b :: bs, [], i, d, h => by simp [zipD3] at h
  | a :: as, b :: bs, c :: cs, 0, d, h => by
    simp [zipD3] at h
    exact ⟨a, b, c, rfl, rfl, rfl, h.symm⟩
  | a :: as, b :: bs, c :: cs, i + 1, d, h => by
    simp only [zipD3, List.getElem?_cons_succ] at h
    simpa using zipD3_get as bs cs i d h
def iZipD (fa : FA) : FI := fun env S => match fa env S with
  | some ([x, y], S1) => match seqLv S1 x, seqLv S1 y with
    | some (l, lv), some (m, mv) => some (zipD2 l m, lv ++ mv, S1)
    | _, _ => none
  | some ([x, y, z], S1) => match seqLv S1 x, seqLv S1 y, seqLv S1 z with
    | some (l, lv), some (m, mv), some (k, kv) => some (zipD3 l m k, lv ++ mv ++ kv, S1)
    | _, _, _ => none
  | _ => none
theorem Live.l {a b : Lv} {S : Sto} (h : Live (a ++ b) S) : Live a S := fun p hp => h p (List.mem_append_left _ hp)
theorem Live.r {a b : Lv} {S : Sto} (h : Live (a ++ b) S) : Live b S := fun p hp => h p (List.mem_append_right _ hp)
/-- an item of a sequence at its place -/
theorem sk_item {xs : List V} {us : List Value} {j : Nat} {x : Value} (r : Vals xs us) (h : us.toArray[j]? = some x) : ∃ v, xs[j]? = some v ∧ RelV v x := by
  have h' : us[j]? = some x := by simpa using h
  have hl : j < xs.length := by
    rw [r.length]
    exact (List.getElem?_eq_some_iff.mp h').1
  obtain ⟨u, hu, ru⟩ := r.get (List.getElem?_eq_getElem hl)
  rw [hu] at h'
  cases h'
  exact ⟨_, List.getElem?_eq_getElem hl, ru⟩
section
variable {X : Cx} {e e2 e3 : Expr} {fa : FA} {p pos tpos : Pos} {elts : List Expr} {kk : Nat}
theorem pi_zipD2 (hg : Gl X "zip") (hm : X.mg "zip" = none) (ha : PA X [e, e2] (TA' X.K fa)) (hst : ∀ x y, e ≠ Expr.Starred x y) (hst2 : ∀ x y, e2 ≠ Expr.Starred x y) (hfa : ∀ env S ds S', fa env S = some (ds, S') → ds.length = 2) :
    PI X (.Tuple elts kk tpos) (.Call (.Name "zip" p) [e, e2] [] pos) (TIt X.K (iZipD fa)) := by
  refine ⟨fun pins s σ H Rr I ⟨β, env, S, ds, lv, S', r, er, h, q⟩ => ?_⟩
  refine Call_ (ld_blt I hg hm PyProof.Rows.boot_zip (PyProof.Rows.callWith_type1 ?_ (star_cons hst) (by rw [star_cons hst2]; rfl)))
  unfold iZipD at h
  split at h
  · rename_i dx dy S1 e1
    cases hq : seqLv S1 dx with
    | none => simp only [hq] at h; cases h
    | some pq =>
      obtain ⟨l, lv1⟩ := pq
      cases hq2 : seqLv S1 dy with
      | none => simp only [hq, hq2] at h; cases h
      | some pq2 =>
        obtain ⟨m, lv2⟩ := pq2
        simp only [hq, hq2] at h
        cases h
        refine thn (ha.run pos pins s σ H (fun vs H1 => ∃ v u, vs = [v, u] ∧ ∃ β1, Le β β1 ∧ Ext X.K H H1 ∧ R X.K β1 H1 S' ∧ VR X.K H1 β1 v dx ∧ VR X.K H1 β1 u dy) I ⟨β, env, S, _, _, r, er, e1, fun β1 vs H1 l1 x1 r1 vr => ?_⟩) ?_
        · obtain ⟨v, u, rfl, hv, hu⟩ := two_of vr
          exact ⟨v, u, rfl, β1, l1, x1, r1, hv, hu⟩
        · rintro us s1 ⟨vs, H1, I1, rv, v, u, rfl, β1, l1, x1, r1, vr, ur⟩
          obtain ⟨w1, w2, rfl, rw1, rw2⟩ := vals2 rv
          obtain ⟨k, a, xs, rfl, hx, vx, hlx⟩ := seqLv_ok r1 vr hq
          obtain ⟨k2, b, ys, rfl, hy, vy, hly⟩ := seqLv_ok r1 ur hq2
          cases (show w1 = Value.ref a from rw1)
          cases (show w2 = Value.ref b from rw2)
          obtain ⟨us1, rv1, hs1, hl1⟩ := Sk.inv I1 k hx
          obtain ⟨us2, rv2, hs2, hl2⟩ := Sk.inv I1 k2 hy
          refine zip_begins2 (k.begins a us1.toArray) (k2.begins b us2.toArray) hs1 hs2 fun h' hz hTI hTO hi1 hi2 hsz hk => wpAny_pyIter_zip hz ?_
          have I2 : L2.Inv X pins σ H1 { s1 with heap := h' } := I1.kept (t' := s1.toks) hk
          have five : ∀ c, c ∈ [s1.heap.objs.size + 4, s1.heap.objs.size + 2, s1.heap.objs.size + 3, s1.heap.objs.size, s1.heap.objs.size + 1] → s1.heap.objs.size ≤ c := fun c hc => by
            simp only [List.mem_cons, List.not_mem_nil, or_false] at hc
            rcases hc with z | z | z | z | z <;> (rw [z]; first | exact Nat.le_refl _ | exact Nat.le_add_right _ _)
          refine ⟨s1.heap.objs.size + 4, [s1.heap.objs.size + 4, s1.heap.objs.size + 2, s1.heap.objs.size + 3, s1.heap.objs.size, s1.heap.objs.size + 1], _, _, H1, rfl, I2,
            turn_rows (n := min l.length m.length) (own := fun i h => IsZip h (s1.heap.objs.size + 4) (s1.heap.objs.size + 2) (s1.heap.objs.size + 3) .none ∧ IsTupOf2 h (s1.heap.objs.size + 2) (.ref s1.heap.objs.size) (.ref (s1.heap.objs.size + 1)) ∧ (∃ a1 a2, IsTupOf2 h (s1.heap.objs.size + 3) a1 a2) ∧ k.itc h s1.heap.objs.size a i ∧ k2.itc h (s1.heap.objs.size + 1) b i)
              (Src := fun H => (∃ xs, k.at_ X.K H a xs ∧ xs.length = l.length) ∧ ∃ ys, k2.at_ X.K H b ys ∧ ys.length = m.length)
              (Row := fun H i row => ∀ xs ys, k.at_ X.K H a xs → k2.at_ X.K H b ys → row = (xs[i]?).toList ++ (ys[i]?).toList) (by simp) ?_ ?_ ?_ ?_, ⟨hz, hTI, ⟨_, _, hTO⟩, k.start hi1, k2.start hi2⟩, fun c hc => I1.fpOk (five c hc) (I1.hok.fresh (five c hc)), ?_⟩
          · rintro i h ⟨q1, q2, ⟨a1, a2, q3⟩, q4, q5⟩ c hc
            simp only [List.mem_cons, List.not_mem_nil, or_false] at hc
            rcases hc with z | z | z | z | z
            · rw [z]; exact ⟨_, q1, fun v q => nomatch q⟩
            · rw [z]; exact ⟨_, q2, fun v q => nomatch q⟩
            · rw [z]; exact ⟨_, q3, fun v q => nomatch q⟩
            · rw [z]; exact k.cellless q4
            · rw [z]; exact k2.cellless q5
          · rintro i h h2 ⟨q1, q2, ⟨a1, a2, q3⟩, q4, q5⟩ hkp
            exact ⟨hkp _ (by simp) _ q1, hkp _ (by simp) _ q2, ⟨a1, a2, hkp _ (by simp) _ q3⟩, k.stay (fun o z => hkp _ (by simp) o z) q4, k2.stay (fun o z => hkp _ (by simp) o z) q5⟩
          · rintro Y hP hw hK hc' pins s σ H i J ow ⟨⟨xs, hx2, lx⟩, ys, hy2, ly⟩
            rw [← hK] at hx2 hy2
            obtain ⟨us, rvu, hsu, hlu⟩ := Sk.inv J k hx2
            obtain ⟨ws, rwu, hsw, hlw⟩ := Sk.inv J k2 hy2
            have hne : a ≠ s1.heap.objs.size := Nat.ne_of_lt hl1
            have hne2 : b ≠ s1.heap.objs.size + 1 := Nat.ne_of_lt (Nat.lt_succ_of_lt hl2)
            have e1 : us.toArray.size = l.length := by
              rw [← lx]
              simpa using rvu.length.symm
            have e2 : ws.toArray.size = m.length := by
              rw [← ly]
              simpa using rwu.length.symm
            have G := GoesN.zip2 (x1 := kk) (pos := tpos) (elts := elts) (zip_sep2 (N := s1.heap.objs.size) (fp1 := [a]) (fp2 := [b]) (fun c hc => by rw [List.mem_singleton.mp hc]; exact hl1) (fun c hc => by rw [List.mem_singleton.mp hc]; exact hl2))
              (k.draws (prog := X.prog) (w := X.w) (A := Y.A.in1) (J.ok.hd hc') s1.heap.objs.size a hne us.toArray) (k2.draws (prog := X.prog) (w := X.w) (A := Y.A.in1) (J.ok.hd hc') (s1.heap.objs.size + 1) b hne2 ws.toArray)
            rw [e1, e2] at G
            refine ⟨_, _, _, _, G, ⟨ow.1, ow.2.1, ow.2.2.1, ⟨ow.2.2.2.1, hsu⟩, ow.2.2.2.2, hsw⟩, fun j h z => ⟨z.1, z.2.1, z.2.2.1, z.2.2.2.1.1, z.2.2.2.2.1⟩, fun c hc => ?_, ?_⟩
            · simp only [List.mem_cons, List.not_mem_nil, or_false] at hc ⊢
              rcases hc with z | z | z | z
              · exact .inl z
              · exact .inr (.inr (.inl z))
              · exact .inr (.inr (.inr (.inl z)))
              · exact .inr (.inr (.inr (.inr z)))
            · rintro j h0 v h hj ⟨T, x, y, rfl, hT, hx', hy', ht⟩
              obtain ⟨vx', ex, rx'⟩ := sk_item rvu hx'
              obtain ⟨vy', ey, ry'⟩ := sk_item rwu hy'
              refine ⟨T, _, [vx', vy'], rfl, hT, ht, .cons rx' (.cons ry' .nil), fun zs zs' h1 h2 => ?_, by show 2 ≤ sizeLine; decide⟩
              rw [← hK] at h1 h2
              rw [sk_inj J k h1 hx2, sk_inj J k2 h2 hy2, ex, ey]
              rfl
          · rintro A i s Q E ⟨h1, _⟩ hq
            exact wpAny_pyIter_zip h1 hq
          · refine q β1 _ H1 l1 x1 r1 (iter_rows (zipD2_len l m) fun β2 H2 S2 l2 x2 r2 lv => ?_)
            obtain ⟨xs', h1, v1⟩ := hlx β2 H2 S2 l2 x2 r2 lv.l
            obtain ⟨ys', h2, v2⟩ := hly β2 H2 S2 l2 x2 r2 lv.r
            refine ⟨⟨⟨xs', h1, v1.length⟩, ys', h2, v2.length⟩, fun i d row hd hrow => ?_⟩
            obtain ⟨x, y, ex, ey, rfl⟩ := zipD2_get _ _ _ _ hd
            obtain ⟨v, q1, q2⟩ := v1.get ex
            obtain ⟨u, q3, q4⟩ := v2.get ey
            refine ⟨_, rfl, ?_⟩
            rw [hrow xs' ys' h1 h2, q1, q3]
            exact .cons q2 (.cons q4 .nil)
  · rename_i e1
    have := hfa _ _ _ _ e1
    cases this
  · cases h
theorem three_of {K : PySem.W.Frag} {H : Hp} {β : List Addr} {vs : List V} {d e f : D} (h : VRs K H β vs [d, e, f]) : ∃ v u w : V, vs = [v, u, w] ∧ VR K H β v d ∧ VR K H β u e ∧ VR K H β w f := by
  cases h with
  | cons a r =>
    obtain ⟨v, u, rfl, h1, h2⟩ := two_of r
    exact ⟨_, v, u, rfl, a, h1, h2⟩
theorem vals3' {x y z : V} {us : List Value} (r : Vals [x, y, z] us) : ∃ u w' v', us = [u, w', v'] ∧ RelV x u ∧ RelV y w' ∧ RelV z v' := by
  cases r with
  | cons r1 r2 =>
    obtain ⟨a, b, rfl, h1, h2⟩ := vals2 r2
    exact ⟨_, a, b, rfl, r1, h1, h2⟩
theorem pi_zipD3 (hg : Gl X "zip") (hm : X.mg "zip" = none) (ha : PA X [e, e2, e3] (TA' X.K fa)) (hst : ∀ x y, e ≠ Expr.Starred x y) (hst2 : ∀ x y, e2 ≠ Expr.Starred x y) (hst3 : ∀ x y, e3 ≠ Expr.Starred x y) (hfa : ∀ env S ds S', fa env S = some (ds, S') → ds.length = 3) :
    PI X (.Tuple elts kk tpos) (.Call (.Name "zip" p) [e, e2, e3] [] pos) (TIt X.K (iZipD fa)) := by
  refine ⟨fun pins s σ H Rr I ⟨β, env, S, ds, lv, S', r, er, h, q⟩ => ?_⟩
  refine Call_ (ld_blt I hg hm PyProof.Rows.boot_zip (PyProof.Rows.callWith_type1 ?_ (star_cons hst) (by rw [star_cons hst2, star_cons hst3]; rfl)))
  unfold iZipD at h
  split at h
  · rename_i e1
    have := hfa _ _ _ _ e1
    cases this
  · rename_i dx dy dz S1 e1
    cases hq : seqLv S1 dx with
    | none => simp only [hq] at h; cases h
    | some pq =>
      obtain ⟨l, lv1⟩ := pq
      cases hq2 : seqLv S1 dy with
      | none => simp only [hq, hq2] at h; cases h
      | some pq2 =>
        obtain ⟨m, lv2⟩ := pq2
        cases hq3 : seqLv S1 dz with
        | none => simp only [hq, hq2, hq3] at h; cases h
        | some pq3 =>
          obtain ⟨o, lv3⟩ := pq3
          simp only [hq, hq2, hq3] at h
          cases h
          refine thn (ha.run pos pins s σ H (fun vs H1 => ∃ v u w, vs = [v, u, w] ∧ ∃ β1, Le β β1 ∧ Ext X.K H H1 ∧ R X.K β1 H1 S' ∧ VR X.K H1 β1 v dx ∧ VR X.K H1 β1 u dy ∧ VR X.K H1 β1 w dz) I ⟨β, env, S, _, _, r, er, e1, fun β1 vs H1 l1 x1 r1 vr => ?_⟩) ?_
          · obtain ⟨v, u, w, rfl, hv, hu, hw⟩ := three_of vr
            exact ⟨v, u, w, rfl, β1, l1, x1, r1, hv, hu, hw⟩
          · rintro us s1 ⟨vs, H1, I1, rv, v, u, w, rfl, β1, l1, x1, r1, vr, ur, wr⟩
            obtain ⟨w1, w2, w3, rfl, rw1, rw2, rw3⟩ := vals3' rv
            obtain ⟨k, a, xs, rfl, hx, vx, hlx⟩ := seqLv_ok r1 vr hq
            obtain ⟨k2, b, ys, rfl, hy, vy, hly⟩ := seqLv_ok r1 ur hq2
            obtain ⟨k3, c, zs, rfl, hz, vz, hlz⟩ := seqLv_ok r1 wr hq3
            cases (show w1 = Value.ref a from rw1)
            cases (show w2 = Value.ref b from rw2)
            cases (show w3 = Value.ref c from rw3)
            obtain ⟨us1, rv1, hs1, hl1⟩ := Sk.inv I1 k hx
            obtain ⟨us2, rv2, hs2, hl2⟩ := Sk.inv I1 k2 hy
            obtain ⟨us3, rv3, hs3, hl3⟩ := Sk.inv I1 k3 hz
            refine zip_begins3 (k.begins a us1.toArray) (k2.begins b us2.toArray) (k3.begins c us3.toArray) hs1 hs2 hs3 fun h' hz0 hTI hTO hi1 hi2 hi3 hsz hk => wpAny_pyIter_zip hz0 ?_
            have I2 : L2.Inv X pins σ H1 { s1 with heap := h' } := I1.kept (t' := s1.toks) hk
            have six : ∀ c, c ∈ [s1.heap.objs.size + 5, s1.heap.objs.size + 3, s1.heap.objs.size + 4, s1.heap.objs.size, s1.heap.objs.size + 1, s1.heap.objs.size + 2] → s1.heap.objs.size ≤ c := fun c hc => by
              simp only [List.mem_cons, List.not_mem_nil, or_false] at hc
              rcases hc with z | z | z | z | z | z <;> (rw [z]; first | exact Nat.le_refl _ | exact Nat.le_add_right _ _)
            refine ⟨s1.heap.objs.size + 5, [s1.heap.objs.size + 5, s1.heap.objs.size + 3, s1.heap.objs.size + 4, s1.heap.objs.size, s1.heap.objs.size + 1, s1.heap.objs.size + 2], _, _, H1, rfl, I2,
              turn_rows (n := min (min l.length m.length) o.length) (own := fun i h => IsZip h (s1.heap.objs.size + 5) (s1.heap.objs.size + 3) (s1.heap.objs.size + 4) .none ∧ IsTupOf3 h (s1.heap.objs.size + 3) (.ref s1.heap.objs.size) (.ref (s1.heap.objs.size + 1)) (.ref (s1.heap.objs.size + 2)) ∧ (∃ a1 a2 a3, IsTupOf3 h (s1.heap.objs.size + 4) a1 a2 a3) ∧ k.itc h s1.heap.objs.size a i ∧ k2.itc h (s1.heap.objs.size + 1) b i ∧ k3.itc h (s1.heap.objs.size + 2) c i)
                (Src := fun H => (∃ xs, k.at_ X.K H a xs ∧ xs.length = l.length) ∧ (∃ ys, k2.at_ X.K H b ys ∧ ys.length = m.length) ∧ ∃ ys, k3.at_ X.K H c ys ∧ ys.length = o.length)
                (Row := fun H i row => ∀ xs ys zs, k.at_ X.K H a xs → k2.at_ X.K H b ys → k3.at_ X.K H c zs → row = (xs[i]?).toList ++ ((ys[i]?).toList ++ (zs[i]?).toList)) (by simp) ?_ ?_ ?_ ?_, ⟨hz0, hTI, ⟨_, _, _, hTO⟩, k.start hi1, k2.start hi2, k3.start hi3⟩, fun c hc => I1.fpOk (six c hc) (I1.hok.fresh (six c hc)), ?_⟩
            · rintro i h ⟨q1, q2, ⟨a1, a2, a3, q3⟩, q4, q5, q6⟩ c hc
              simp only [List.mem_cons, List.not_mem_nil, or_false] at hc
              rcases hc with z | z | z | z | z | z
              · rw [z]; exact ⟨_, q1, fun v q => nomatch q⟩
              · rw [z]; exact ⟨_, q2, fun v q => nomatch q⟩
              · rw [z]; exact ⟨_, q3, fun v q => nomatch q⟩
              · rw [z]; exact k.cellless q4
              · rw [z]; exact k2.cellless q5
              · rw [z]; exact k3.cellless q6
            · rintro i h h2 ⟨q1, q2, ⟨a1, a2, a3, q3⟩, q4, q5, q6⟩ hkp
              exact ⟨hkp _ (by simp) _ q1, hkp _ (by simp) _ q2, ⟨a1, a2, a3, hkp _ (by simp) _ q3⟩, k.stay (fun o z => hkp _ (by simp) o z) q4, k2.stay (fun o z => hkp _ (by simp) o z) q5, k3.stay (fun o z => hkp _ (by simp) o z) q6⟩
            · rintro Y hP hw hK hc' pins s σ H i J ow ⟨⟨xs, hx2, lx⟩, ⟨ys, hy2, ly⟩, zs, hz2, lz⟩
              rw [← hK] at hx2 hy2 hz2
              obtain ⟨us, rvu, hsu, hlu⟩ := Sk.inv J k hx2
              obtain ⟨ws, rwu, hsw, hlw⟩ := Sk.inv J k2 hy2
              obtain ⟨ts, rtu, hst', hlt⟩ := Sk.inv J k3 hz2
              have hne : a ≠ s1.heap.objs.size := Nat.ne_of_lt hl1
              have hne2 : b ≠ s1.heap.objs.size + 1 := Nat.ne_of_lt (Nat.lt_succ_of_lt hl2)
              have hne3 : c ≠ s1.heap.objs.size + 2 := Nat.ne_of_lt (Nat.lt_succ_of_lt (Nat.lt_succ_of_lt hl3))
              have e1 : us.toArray.size = l.length := by
                rw [← lx]
                simpa using rvu.length.symm
              have e2 : ws.toArray.size = m.length := by
                rw [← ly]
                simpa using rwu.length.symm
              have e3 : ts.toArray.size = o.length := by
                rw [← lz]
                simpa using rtu.length.symm
              have G := GoesN.zip3 (x1 := kk) (pos := tpos) (elts := elts) (zip_sep3 (N := s1.heap.objs.size) (fp1 := [a]) (fp2 := [b]) (fp3 := [c]) (fun c hc => by rw [List.mem_singleton.mp hc]; exact hl1) (fun c hc => by rw [List.mem_singleton.mp hc]; exact hl2) (fun c hc => by rw [List.mem_singleton.mp hc]; exact hl3))
                (k.draws (prog := X.prog) (w := X.w) (A := Y.A.in1) (J.ok.hd hc') s1.heap.objs.size a hne us.toArray) (k2.draws (prog := X.prog) (w := X.w) (A := Y.A.in1) (J.ok.hd hc') (s1.heap.objs.size + 1) b hne2 ws.toArray) (k3.draws (prog := X.prog) (w := X.w) (A := Y.A.in1) (J.ok.hd hc') (s1.heap.objs.size + 2) c hne3 ts.toArray)
              rw [e1, e2, e3] at G
              refine ⟨_, _, _, _, G, ⟨ow.1, ow.2.1, ow.2.2.1, ⟨ow.2.2.2.1, hsu⟩, ⟨ow.2.2.2.2.1, hsw⟩, ow.2.2.2.2.2, hst'⟩, fun j h z => ⟨z.1, z.2.1, z.2.2.1, z.2.2.2.1.1, z.2.2.2.2.1.1, z.2.2.2.2.2.1⟩, fun c hc => ?_, ?_⟩
              · simp only [List.mem_cons, List.not_mem_nil, or_false] at hc ⊢
                rcases hc with z | z | z | z | z
                · exact .inl z
                · exact .inr (.inr (.inl z))
                · exact .inr (.inr (.inr (.inl z)))
                · exact .inr (.inr (.inr (.inr (.inl z))))
                · exact .inr (.inr (.inr (.inr (.inr z))))
              · rintro j h0 v h hj ⟨T, x, y, z, rfl, hT, hx', hy', hz', ht⟩
                obtain ⟨vx', ex, rx'⟩ := sk_item rvu hx'
                obtain ⟨vy', ey, ry'⟩ := sk_item rwu hy'
                obtain ⟨vz', ez, rz'⟩ := sk_item rtu hz'
                refine ⟨T, _, [vx', vy', vz'], rfl, hT, ht, .cons rx' (.cons ry' (.cons rz' .nil)), fun as bs cs h1 h2 h3 => ?_, by show 3 ≤ sizeLine; decide⟩
                rw [← hK] at h1 h2 h3
                rw [sk_inj J k h1 hx2, sk_inj J k2 h2 hy2, sk_inj J k3 h3 hz2, ex, ey, ez]
                rfl
            · rintro A i s Q E ⟨h1, _⟩ hq
              exact wpAny_pyIter_zip h1 hq
            · refine q β1 _ H1 l1 x1 r1 (iter_rows (zipD3_len l m o) fun β2 H2 S2 l2 x2 r2 lv => ?_)
              obtain ⟨xs', h1, v1⟩ := hlx β2 H2 S2 l2 x2 r2 lv.l.l
              obtain ⟨ys', h2, v2⟩ := hly β2 H2 S2 l2 x2 r2 lv.l.r
              obtain ⟨zs', h3, v3⟩ := hlz β2 H2 S2 l2 x2 r2 lv.r
              refine ⟨⟨⟨xs', h1, v1.length⟩, ⟨ys', h2, v2.length⟩, zs', h3, v3.length⟩, fun i d row hd hrow => ?_⟩
              obtain ⟨x, y, z, ex, ey, ez, rfl⟩ := zipD3_get _ _ _ _ _ hd
              obtain ⟨v, q1, q2⟩ := v1.get ex
              obtain ⟨u, q3, q4⟩ := v2.get ey
              obtain ⟨w, q5, q6⟩ := v3.get ez
              refine ⟨_, rfl, ?_⟩
              rw [hrow xs' ys' zs' h1 h2 h3, q1, q3, q5]
              exact .cons q2 (.cons q4 (.cons q6 .nil))
  · cases h
end
end MP
namespace MP
open PySem L2 PySem.Spec PyProof.Rows
/-! ### pairs and triples stored at once -/
section
variable {X : Cx} {x y z : Str} {px py pz pt pt2 pos : Pos} {k k2 : Nat} {a b c : Expr}
theorem fn_block {env : PySem.Env} (h : env.scope.kind = .function) : env.blockKind = .function := by
  unfold Env.blockKind
  rw [h]
  rfl
theorem sw2 {env : PySem.Env} (hk : env.scope.kind = .function) (ha : ∀ u v, a ≠ .Starred u v) (hb : ∀ u v, b ≠ .Starred u v) (hl : px.line = py.line) (hx : env.kindOf x = some .local) (hy : env.kindOf y = some .local) (hne : x ≠ y)
    (hf : (foldedForSure 8 a && foldedForSure 8 b) = false) (hc : (constantsAlone 8 a && constantsAlone 8 b) = false) : swappedStores [.Tuple [.Name x px, .Name y py] k pt] (.Tuple [a, b] k2 pt2) env = pure (some [x, y]) := by
  have sa : (match a with | .Starred _ _ => true | _ => false) = false := by cases a <;> first | rfl | exact absurd rfl (ha _ _)
  have sb : (match b with | .Starred _ _ => true | _ => false) = false := by cases b <;> first | rfl | exact absurd rfl (hb _ _)
  have hne' : (y == x) = false := by simpa using fun q => hne q.symm
  unfold swappedStores
  simp [fn_block hk, sa, sb, hx, hy, hl, hf, hc, Expr.pos, List.eraseDups, List.eraseDupsBy, List.eraseDupsBy.loop, hne', hne]
theorem sw2n {env : PySem.Env} (hk : env.scope.kind = .function) (ha : ∀ u v, a ≠ .Starred u v) (hb : ∀ u v, b ≠ .Starred u v) (hl : px.line = py.line) (hx : env.kindOf x = some .local) (hy : env.kindOf y = some .local) (hne : x ≠ y)
    (hf : (foldedForSure 8 a && foldedForSure 8 b) = true) : swappedStores [.Tuple [.Name x px, .Name y py] k pt] (.Tuple [a, b] k2 pt2) env = pure none := by
  have sa : (match a with | .Starred _ _ => true | _ => false) = false := by cases a <;> first | rfl | exact absurd rfl (ha _ _)
  have sb : (match b with | .Starred _ _ => true | _ => false) = false := by cases b <;> first | rfl | exact absurd rfl (hb _ _)
  have hne' : (y == x) = false := by simpa using fun q => hne q.symm
  unfold swappedStores
  simp [fn_block hk, sa, sb, hx, hy, hl, hf, Expr.pos, List.eraseDups, List.eraseDupsBy, List.eraseDupsBy.loop, hne', hne]
theorem sw2c {env : PySem.Env} (hk : env.scope.kind = .function) (hx : env.kindOf x ≠ some .local ∨ env.kindOf y ≠ some .local) : swappedStores [.Tuple [.Name x px, .Name y py] k pt] (.Tuple [a, b] k2 pt2) env = pure none := by
  unfold swappedStores
  by_cases h1 : env.kindOf x = some .local
  · have hy := hx.resolve_left (fun q => q h1)
    simp [fn_block hk, h1, hy, Expr.pos, List.filterMap_cons]
  · by_cases h2 : env.kindOf y = some .local ∧ py.line = px.line
    · simp [fn_block hk, h1, h2, Expr.pos, List.filterMap_cons]
    · have h2' : (env.kindOf y == some .local && py.line == px.line) = false := by
        cases h : (env.kindOf y == some .local && py.line == px.line) with
        | false => rfl
        | true =>
          simp only [Bool.and_eq_true, beq_iff_eq] at h
          exact absurd h h2
      simp [fn_block hk, h1, Expr.pos, List.filterMap_cons, if_neg h2]
theorem sw3 {env : PySem.Env} (hk : env.scope.kind = .function) (ha : ∀ u v, a ≠ .Starred u v) (hb : ∀ u v, b ≠ .Starred u v) (hc' : ∀ u v, c ≠ .Starred u v) (hl : px.line = py.line) (hl2 : px.line = pz.line) (hx : env.kindOf x = some .local) (hy : env.kindOf y = some .local) (hz : env.kindOf z = some .local) (hne : x ≠ y) (hne2 : x ≠ z) (hne3 : y ≠ z)
    (hf : (foldedForSure 8 a && (foldedForSure 8 b && foldedForSure 8 c)) = false) (hc : (constantsAlone 8 a && (constantsAlone 8 b && constantsAlone 8 c)) = false) : swappedStores [.Tuple [.Name x px, .Name y py, .Name z pz] k pt] (.Tuple [a, b, c] k2 pt2) env = pure (some [x, y, z]) := by
  have sa : (match a with | .Starred _ _ => true | _ => false) = false := by cases a <;> first | rfl | exact absurd rfl (ha _ _)
  have sb : (match b with | .Starred _ _ => true | _ => false) = false := by cases b <;> first | rfl | exact absurd rfl (hb _ _)
  have sc : (match c with | .Starred _ _ => true | _ => false) = false := by cases c <;> first | rfl | exact absurd rfl (hc' _ _)
  have e1 : (y == x) = false := by simpa using fun q => hne q.symm
  have e2 : (z == x) = false := by simpa using fun q => hne2 q.symm
  have e3 : (z == y) = false := by simpa using fun q => hne3 q.symm
  have ed : [x, y, z].eraseDups = [x, y, z] := by
    simp only [List.eraseDups, List.eraseDupsBy, List.eraseDupsBy.loop, List.any_nil, List.any_cons, e1, e2, e3, Bool.or_false, Bool.false_or, List.reverse_cons, List.reverse_nil, List.nil_append, List.cons_append]
  have l1 : (px.line == px.line) = true := by simp
  have l2 : (py.line == px.line) = true := by simp [hl]
  have l3 : (pz.line == px.line) = true := by simp [hl2]
  have k0 : ((some NameKind.local : Option NameKind) == some .local) = true := by decide
  unfold swappedStores
  simp only [fn_block hk, sa, sb, sc, List.any_cons, List.any_nil, Bool.or_false, List.length_cons, List.length_nil, List.head?_cons, Option.map_some, Expr.pos, Option.getD_some, List.filterMap_cons, List.filterMap_nil, hx, hy, hz, l1, l2, l3, k0, Bool.and_self, Bool.and_true, if_true, ed, List.all_cons, List.all_nil, hf, hc, pure_bind]
  simp
end
end MP
namespace MP
open PySem L2 PySem.Spec PyProof.Rows
section
variable {X : Cx} {x y z : Str} {px py pz pt pt2 pos : Pos} {k k2 : Nat} {a b c : Expr} {fa : FA} {i j l : Nat}
theorem S_par2 (hc : X.calm = true) (hN : X.N.Nodup) (hi : X.N[i]? = some x) (hj : X.N[j]? = some y) (hij : i ≠ j) (hx : X.env.scope.names.lookup x = some .local) (hy : X.env.scope.names.lookup y = some .local) (ha : PA X [a, b] (TA' X.K fa))
    (hfa : ∀ env S ds S', fa env S = some (ds, S') → ds.length = 2) (hw : swappedStores [.Tuple [.Name x px, .Name y py] k pt] (.Tuple [a, b] k2 pt2) X.env = pure (some [x, y])) :
    PS X (.Assign [.Tuple [.Name x px, .Name y py] k pt] (.Tuple [a, b] k2 pt2) pos) (TSt X.K (sAsg (.tu [.nm i, .nm j]) (fTup fa))) := PS.to (ps_par hc hN hi hj hij hx hy ha hw rfl) fun E σ H ⟨β, env, S, fl, env', S', r, er, h, q⟩ => by
  unfold sAsg fTup at h
  cases h1 : fa env S with
  | none => simp only [h1] at h; cases h
  | some p =>
    obtain ⟨ds, S1⟩ := p
    have hl := hfa _ _ _ _ h1
    match ds, hl with
    | [d, e], _ =>
      simp only [h1] at h
      have hz : gI (decide (([d, e] : List D).length ≤ sizeLine)) (D.tup [d, e]) S1 = some (.tup [d, e], S1) := by
        unfold gI
        exact if_pos (decide_eq_true (show ([d, e] : List D).length ≤ sizeLine from (show 2 ≤ sizeLine by decide)))
      rw [hz] at h
      simp only [Tn.asg, Tn.asgs] at h
      cases h
      refine ⟨β, env, S, _, _, r, er, h1, fun β1 vs H1 l1 x1 r1 vr => ?_⟩
      obtain ⟨v, u, rfl, hv, hu⟩ := two_of vr
      exact ⟨v, u, rfl, q β1 _ H1 l1 x1 r1 (((er.mono x1 l1).set i hv).set j hu)⟩
/-- three plain local names stored from the right -/
theorem S_par3 (hc : X.calm = true) (hN : X.N.Nodup) (hi : X.N[i]? = some x) (hj : X.N[j]? = some y) (hl : X.N[l]? = some z) (hij : i ≠ j) (hil : i ≠ l) (hjl : j ≠ l) (hx : X.env.scope.names.lookup x = some .local) (hy : X.env.scope.names.lookup y = some .local) (hz : X.env.scope.names.lookup z = some .local) (ha : PA X [a, b, c] (TA' X.K fa))
    (hfa : ∀ env S ds S', fa env S = some (ds, S') → ds.length = 3) (hw : swappedStores [.Tuple [.Name x px, .Name y py, .Name z pz] k pt] (.Tuple [a, b, c] k2 pt2) X.env = pure (some [x, y, z])) :
    PS X (.Assign [.Tuple [.Name x px, .Name y py, .Name z pz] k pt] (.Tuple [a, b, c] k2 pt2) pos) (TSt X.K (sAsg (.tu [.nm i, .nm j, .nm l]) (fTup fa))) := by
  refine ⟨fun pins s σ H E I ⟨β, env, S, fl, env', S', r, er, h, q⟩ => ?_⟩
  unfold sAsg fTup at h
  cases h1 : fa env S with
  | none => simp only [h1] at h; cases h
  | some p =>
    obtain ⟨ds, S1⟩ := p
    have hlen := hfa _ _ _ _ h1
    match ds, hlen with
    | [d, e, f], _ =>
      simp only [h1] at h
      have hsz : gI (decide (([d, e, f] : List D).length ≤ sizeLine)) (D.tup [d, e, f]) S1 = some (.tup [d, e, f], S1) := by
        unfold gI
        exact if_pos (decide_eq_true (show ([d, e, f] : List D).length ≤ sizeLine from (show 3 ≤ sizeLine by decide)))
      rw [hsz] at h
      simp only [Tn.asg, Tn.asgs] at h
      cases h
      rw [exec_Assign_arm]
      refine wpAny_bind (wpAny_standAt (wpAny_bind (wpAny_pure ?_)))
      rw [if_neg (by decide)]
      refine wpAny_bind (Tuple_ (thn (ha.run _ pins s σ H (fun vs H1 => ∃ v u w, vs = [v, u, w] ∧ ∃ β1, Le β β1 ∧ Ext X.K H H1 ∧ R X.K β1 H1 S' ∧ VR X.K H1 β1 v d ∧ VR X.K H1 β1 u e ∧ VR X.K H1 β1 w f) I ⟨β, env, S, _, _, r, er, h1, fun β1 vs H1 l1 x1 r1 vr => ?_⟩) fun us s1 ⟨vs, H1, I1, r1, v, u, w, e1, β1, l1, x1, rr, vr, ur, wr⟩ => ?_))
      · obtain ⟨v, u, w, rfl, hv, hu, hw'⟩ := three_of vr
        exact ⟨v, u, w, rfl, β1, l1, x1, r1, hv, hu, hw'⟩
      · subst e1
        obtain ⟨u1, u2, u3, rfl, rv, ru, rw'⟩ := vals3' r1
        refine wpAny_newObj_type ?_ (by show 3 ≤ sizeLine; decide)
        have I2 : L2.Inv X pins σ H1 { s1 with heap := s1.heap.push { cls := .type "tuple", data := .seq [u1, u2, u3].toArray } } := I1.kept (t' := s1.toks) fun b o e => Heap.get?_push_of_some _ e
        rw [hw]
        refine wpAny_bind (wpAny_pure ?_)
        unfold assignStores
        refine wpAny_bind (wpAny_rule (wpAny_bind ?_))
        show wpAny (model X.prog X.w) X.A (unpackItems (.ref s1.heap.objs.size) 3 none) _ _ { s1 with heap := s1.heap.push { cls := .type "tuple", data := .seq [u1, u2, u3].toArray } }
        refine unpackItems_tuple (items := #[u1, u2, u3]) (I.ok.hd hc) (IsTup.new s1.heap _) fun h' hx' => ?_
        have I3 := I2.kept (h' := h') (t' := s1.toks) fun b o e => hx' b o (Nat.ne_of_lt (Heap.lt_size e)) e
        show wpAny _ _ (assignInOrder [fun v => bindName X.env z v, fun v => bindName X.env y v, fun v => bindName X.env x v] [u3, u2, u1] >>= fun _ => pure Flow.next) _ _ _
        refine wpAny_bind (assignInOrder_cons (wpAny_bindName (store_ok I3 hN hl (.inl hz) rw' (fun s2 I4 => ?_) (.inr hz))))
        refine assignInOrder_cons (wpAny_bindName (store_ok I4 hN hj (.inl hy) ru (fun s3 I5 => ?_) (.inr hy)))
        refine assignInOrder_cons (wpAny_bindName (store_ok I5 hN hi (.inl hx) rv (fun s4 I6 => assignInOrder_nil (wpAny_pure ?_)) (.inr hx)))
        refine ⟨_, H1, I6, ?_⟩
        have e2 : ((σ.set l (some w)).set j (some u)).set i (some v) = ((σ.set i (some v)).set j (some u)).set l (some w) := by
          rw [List.set_comm _ _ (Ne.symm hjl), List.set_comm _ _ (Ne.symm hil), List.set_comm _ _ (Ne.symm hij)]
        rw [e2]
        exact q β1 _ H1 l1 x1 rr ((((er.mono x1 l1).set i vr).set j ur).set l wr)
end
end MP
namespace MP
open PySem L2 PySem.Spec PyProof.Rows
/-! ### further sources: a range with a step, reversed -/
def stepTo (lo c : Int) (n : Nat) : List D := (List.range n).map fun (k : Nat) => D.int (lo + (k : Int) * c)
theorem iter_rngC {K : PySem.W.Frag} {β : List Addr} {H : Hp} {lo c : Int} {n : Nat} : IterOk K β H (Itc lo c n) (stepTo lo c n) [] := by
  intro i β1 H1 S1 l x r1 _
  unfold stepTo
  refine ⟨fun e => ?_, fun d e => ?_⟩
  · show n ≤ i
    rw [e]
    simp
  · rw [List.getElem?_map] at e
    by_cases hi : i < n
    · rw [List.getElem?_range hi] at e
      cases e
      refine ⟨hi, fun y H2 q => ?_⟩
      obtain ⟨q1, q2⟩ := q
      subst q1 q2
      exact ⟨β1, Le.refl _, Ext.refl _, r1, .int _⟩
    · rw [List.getElem?_eq_none (by simpa using hi)] at e
      cases e
def okStep (i j c : Int) : Bool := decide (c ≠ 0 ∧ c.natAbs < 1073741824) && (Builtin.Range.small i j c && decide (0 ≤ Builtin.Range.rangeSize i j c))
def iRange3 (fa : FA) : FI := fun env S => match fa env S with
  | some ([.int i, .int j, .int c], S1) => if okStep i j c = true then some (stepTo i c (Builtin.Range.rangeSize i j c).toNat, [], S1) else none
  | _ => none
section
variable {X : Cx} {tg : Expr}
theorem pi_rng3 {a b c : Expr} {fa : FA} {p pos : Pos} (hg : Gl X "range") (hm : X.mg "range" = none) (ha : PA X [a, b, c] (TA' X.K fa)) (hs : ∀ x y, a ≠ Expr.Starred x y) (hs2 : ∀ x y, b ≠ Expr.Starred x y) (hs3 : ∀ x y, c ≠ Expr.Starred x y) :
    PI X tg (.Call (.Name "range" p) [a, b, c] [] pos) (TIt X.K (iRange3 fa)) := PI_to (pi_range3 hg hm ha (by rw [star_cons hs]) (by rw [star_cons hs2, star_cons hs3]; rfl)) fun σ H Q ⟨β, env, S, ds, lv, S', r, er, h, q⟩ => by
  unfold iRange3 at h
  split at h
  · rename_i i j k S1 e1
    split at h
    · rename_i ok
      cases h
      unfold okStep at ok
      simp only [Bool.and_eq_true, decide_eq_true_eq] at ok
      obtain ⟨⟨o1, o2⟩, o3, o4⟩ := ok
      refine ⟨β, env, S, _, _, r, er, e1, fun β1 vs H1 l1 x1 r1 vr => ?_⟩
      obtain ⟨x, y, z, rfl, hx, hy, hz⟩ := three_of vr
      cases hx
      cases hy
      cases hz
      exact ⟨i, j, k, _, rfl, ⟨o1, o2, o3, (Int.toNat_of_nonneg o4).symm⟩, q β1 _ H1 l1 x1 r1 iter_rngC⟩
    · cases h
  · cases h
/-- reversed(x) -/
def iRevD (fa : FE) : FI := fun env S => match fa env S with
  | some (.tup l, S1) => some (l.reverse, [], S1)
  | some (.ref n, S1) => match itemsAt S1 n with
    | some l => some (l.reverse, [(n, l)], S1)
    | none => none
  | _ => none
theorem rev_at {α : Type} {l : List α} {i : Nat} (h : i < l.length) : l.reverse[i]? = l[l.length - 1 - i]? := by
  rw [List.getElem?_reverse h]
theorem iter_rtup {K : PySem.W.Frag} {β : List Addr} {H : Hp} {a : Addr} {xs : List V} {ds : List D} (h : SqT K H a xs) (r : VRs K H β xs ds) : IterOk K β H (RT.ItvT K a xs.length) ds.reverse [] := by
  intro i β1 H1 S1 l x r1 _
  have h1 := x _ _ h
  have v1 := r.mono x l
  have hl := v1.length
  refine ⟨fun e => ?_, fun d e => ?_⟩
  · rw [List.length_reverse] at e
    show xs.length ≤ i
    omega
  · have hi : i < ds.length := by
      have := (List.getElem?_eq_some_iff.mp e).1
      simpa using this
    rw [rev_at hi] at e
    obtain ⟨v, e1, e2⟩ := v1.get e
    rw [← hl] at e1
    refine ⟨⟨by omega, xs, v, h1, e1⟩, fun y H2 q => ?_⟩
    obtain ⟨q1, q2⟩ := q
    subst q1
    rw [q2 xs h1] at e1
    cases e1
    exact ⟨β1, Le.refl _, Ext.refl _, r1, e2⟩
theorem iter_rlst {K : PySem.W.Frag} {β : List Addr} {H : Hp} {n : Nat} {a : Addr} {ds : List D} (ha : β[n]? = some a) : IterOk K β H (Itv K a ds.length) ds.reverse [(n, ds)] := by
  intro i β1 H1 S1 l x r1 lv
  have h0 := lv (n, ds) List.mem_cons_self
  obtain ⟨xs, h1, v1⟩ := r1.items (l _ _ ha) h0
  refine ⟨fun e => ?_, fun d e => ?_⟩
  · rw [List.length_reverse] at e
    show ds.length ≤ i
    omega
  · have hi : i < ds.length := by
      have := (List.getElem?_eq_some_iff.mp e).1
      simpa using this
    rw [rev_at hi] at e
    obtain ⟨v, e1, e2⟩ := v1.get e
    refine ⟨⟨hi, xs, v, h1, e1⟩, fun y H2 q => ?_⟩
    obtain ⟨q1, q2⟩ := q
    subst q1
    rw [q2 xs h1] at e1
    cases e1
    exact ⟨β1, Le.refl _, Ext.refl _, r1, e2⟩
theorem pi_revD {e : Expr} {fa : FE} {p pos : Pos} (hg : Gl X "reversed") (hm : X.mg "reversed" = none) (he : PE X e (T X.K fa)) (hs : ∀ x y, e ≠ Expr.Starred x y) : PI X tg (.Call (.Name "reversed" p) [e] [] pos) (TIt X.K (iRevD fa)) := PI_to (RT.pi_revA hg hm he (by rw [star_cons hs])) fun σ H Q ⟨β, env, S, ds, lv, S', r, er, h, q⟩ => by
  unfold iRevD at h
  split at h
  · rename_i l S1 e1
    cases h
    refine ⟨β, env, S, _, _, r, er, e1, fun β1 v H1 l1 x1 r1 vr => ?_⟩
    cases vr with
    | @tup a xs _ hx rx => exact ⟨a, xs, rfl, .inr ⟨hx, q β1 _ H1 l1 x1 r1 (iter_rtup hx rx)⟩⟩
  · rename_i n S1 e1
    cases h1 : itemsAt S1 n with
    | none => rw [h1] at h; cases h
    | some l =>
      simp only [h1] at h
      cases h
      refine ⟨β, env, S, _, _, r, er, e1, fun β1 v H1 l1 x1 r1 vr => ?_⟩
      cases vr with
      | ref hn =>
        obtain ⟨xs, h2, v2⟩ := r1.items hn h1
        refine ⟨_, xs, rfl, .inl ⟨h2, q β1 _ H1 l1 x1 r1 ?_⟩⟩
        rw [v2.length]
        exact iter_rlst hn
  · cases h
/-- reversed(range(..)) -/
def iRevRng (fa : FA) : FI := fun env S => match fa env S with
  | some ([.int j], S1) => if -(2 ^ 62) ≤ j ∧ j < 2 ^ 62 then some (stepTo (0 + (((j - 0).toNat : Nat) : Int) - 1) (-1) (j - 0).toNat, [], S1) else none
  | _ => none
theorem pi_revRng {a : Expr} {fe : FE} {fa : FA} {p p2 pos pos2 : Pos} (hg : Gl X "reversed") (hm : X.mg "reversed" = none) (hg2 : Gl X "range") (hm2 : X.mg "range" = none) (ha : PE X a (T X.K fe)) (hs : ∀ x y, a ≠ Expr.Starred x y)
    (hfa : ∀ env S ds S', fa env S = some (ds, S') → ∃ d, ds = [d] ∧ fe env S = some (d, S')) : PI X tg (.Call (.Name "reversed" p) [.Call (.Name "range" p2) [a] [] pos2] [] pos) (TIt X.K (iRevRng fa)) :=
  PI_to (pi_revR hg hm (prg_1 hg2 hm2 ha (by rw [star_cons hs]))) fun σ H Q ⟨β, env, S, ds, lv, S', r, er, h, q⟩ => by
    unfold iRevRng at h
    split at h
    · rename_i j S1 e1
      split at h
      · rename_i c
        cases h
        obtain ⟨d, hd, e2⟩ := hfa _ _ _ _ e1
        cases hd
        refine ⟨β, env, S, _, _, r, er, e2, fun β1 v H1 l1 x1 r1 vr => ?_⟩
        cases vr
        exact ⟨j, rfl, by decide, by decide, c.1, c.2, q β1 _ H1 l1 x1 r1 iter_rngC⟩
      · cases h
    · cases h
end
end MP
namespace MP
open PySem PySem.Spec PyProof.Rows
/-! ### a set of texts, none twice -/
/-- the first i texts, as a set -/
def firstS (xs : List Str) (i : Nat) (y : Str) : Bool := (xs.take i).any (· == y)
theorem firstS_no {xs : List Str} (nd : xs.Nodup) {i : Nat} (hi : i < xs.length) : firstS xs i (xs.getD i Str.empty) = false := by
  unfold firstS
  rw [List.any_eq_false]
  intro y hy
  have e : xs.getD i Str.empty = xs[i] := by simp [List.getD, List.getElem?_eq_getElem hi]
  rw [e]
  intro q
  have q' : y = xs[i] := by simpa using q
  obtain ⟨j, hj, ej⟩ := List.getElem_of_mem hy
  rw [List.length_take] at hj
  rw [List.getElem_take] at ej
  have hji : j < i := by omega
  exact (List.pairwise_iff_getElem.mp nd j i (by omega) hi hji) (ej.trans q')
theorem firstS_succ {xs : List Str} {i : Nat} (hi : i < xs.length) (y : Str) : firstS xs (i + 1) y = (firstS xs i y || decide (y = xs.getD i Str.empty)) := by
  unfold firstS
  have e : xs.getD i Str.empty = xs[i] := by simp [List.getD, List.getElem?_eq_getElem hi]
  rw [List.take_succ, List.getElem?_eq_getElem hi, List.any_append, e]
  simp only [Option.toList_some, List.any_cons, List.any_nil, Bool.or_false]
  congr 1
  by_cases q : y = xs[i]
  · simp [q]
  · have : (xs[i] == y) = false := by simpa using fun z => q z.symm
    rw [this, decide_eq_false q]
section
variable {prog : Program} {w : World} {A : Around} {R : Result → Shared → Prop} {it : Addr} {fp wr : List Addr} {G : Array GenState → Array GenState → Prop} {n : Nat} {Pv : Nat → Value → Prop} {St : Nat → Shared → Prop}
theorem loopS (V : WalksS prog w A.in1 it fp wr G n Pv St) (D : Addr) (nf : D ∉ fp) (xs : List Str) (hl : xs.length = n) (nd : xs.Nodup) (few : n + 1 < scanBound) (vals : ∀ i v, Pv i v → ∃ t, v = .str (xs.getD i Str.empty) t) :
    ∀ (m i : Nat) (s : Shared), n - i = m → i ≤ n → St i s → s.heap.SetOf (PySem.strKind prog w) D (firstS xs i) i →
      (∀ s', Moved (D :: wr) G s s' → s'.heap.SetOf (PySem.strKind prog w) D (firstS xs n) n → R (.ok (.ret .none)) s') → codeAny (model prog w) A (.builtin "set.update.loop" ⟨[.ref D, .ref it], []⟩) R s := by
  have nw : D ∉ wr := fun q => nf (V.sub _ q)
  have sub : ∀ b ∈ wr, b ∈ D :: wr := fun b q => List.mem_cons_of_mem _ q
  intro m
  induction m with
  | zero =>
    intro i s e le st set k
    obtain rfl : i = n := by omega
    refine codeAny_builtin F.entry_set_update_loop ?_
    rw [Around.under_plainId F.plain_set_update_loop _]
    show wpAny _ A.in1 (pyNext (.ref it) >>= _) _ _ s
    refine wpAny_bind (V.done s _ _ st fun s' mv => wpAny_pure (k s' (mv.mono sub) ?_))
    obtain ⟨o, es, ep, t, ho, more⟩ := set
    exact ⟨o, es, ep, t, mv.heap D _ nw ho, more⟩
  | succ m ih =>
    intro i s e le st set k
    have lt : i < n := by omega
    refine codeAny_builtin F.entry_set_update_loop ?_
    rw [Around.under_plainId F.plain_set_update_loop _]
    show wpAny _ A.in1 (pyNext (.ref it) >>= _) _ _ s
    refine wpAny_bind (V.item i s _ _ lt st fun v s' pv st' mv => ?_)
    obtain ⟨t, rfl⟩ := vals i v pv
    have set1 : s'.heap.SetOf (PySem.strKind prog w) D (firstS xs i) i := by
      obtain ⟨o, es, ep, t, ho, more⟩ := set
      exact ⟨o, es, ep, t, mv.heap D _ nw ho, more⟩
    show wpAny _ A.in1 (holding [Value.str (xs.getD i Str.empty) t] (setAdd D (.str (xs.getD i Str.empty) t)) >>= _) _ _ s'
    refine wpAny_bind (wpAny_holding ?_)
    unfold setAdd
    refine wpAny_holding (wpAny_bind ((PySem.strKind prog w).pyHash (k := xs.getD i Str.empty) (strKind_is _ _ _ _) ?_))
    refine wpAny_setAddHashed_of (knd := PySem.strKind prog w) (s := { s' with toks := s'.toks + 1 }) (strKind_is _ _ _ _) rfl set1 (by omega) fun h' only set2 => ?_
    have set3 : h'.SetOf (PySem.strKind prog w) D (firstS xs (i + 1)) (i + 1) := SetOf_congr set2 (fun y => (firstS_succ (by omega) y).symm) (by rw [firstS_no nd (by omega)]; rfl)
    refine wpAny_pure ⟨plainId_quiet F.plain_set_update_loop _, ih (i + 1) _ (by omega) lt (V.frame _ s' _ _ st' (Nat.le_succ _) fun b hb o eo => ?_) set3 fun s2 mv2 set4 => k s2 (Moved.trans V.gtrans ((mv.mono sub).then_heap (Nat.le_succ _) fun b o hb eo => ?_) mv2) set4⟩
    · rw [only.2 b (fun q : b = D => nf (q ▸ hb))]
      exact eo
    · rw [only.2 b (fun q : b = D => hb (q ▸ List.mem_cons_self))]
      exact eo
end
end MP
namespace MP
open PySem PySem.Spec PyProof.Rows
section
variable {prog : Program} {w : World} {A : Around} {E : Value → Shared → Prop} {s : Shared}
/-- the set that set(..) starts from -/
def bareSet (led : Bool) : Obj := { cls := .type "set", dict := none, data := .set #[] 0 (.fresh 0 0 led) }
theorem set_of_texts {l : Addr} {items : Array Value} {xs : List Str} {Q : Value → Shared → Prop} (calm : A.handled = none) (lst : s.heap.IsList l items) (txt : StrsAre items.toList xs) (nd : xs.Nodup) (few : xs.length + 1 < scanBound)
    (h : ∀ (h' : Heap) (tk : Nat), h'.SetOf (PySem.strKind prog w) s.heap.objs.size (firstS xs xs.length) xs.length → (∀ b o, b < s.heap.objs.size → s.heap.get? b = some o → h'.get? b = some o) → Q (.ref s.heap.objs.size) { s with heap := h', toks := tk }) :
    wpAny (model prog w) A (call (.type "set") [.ref l]) Q E s := by
  obtain ⟨c, tl, hmro⟩ := PySem.F.called_set.mro
  have made := PySem.F.called_set.made
  have sub := PySem.F.called_set.sub
  refine wpAny_call (codeAny_of_tree (show wpAny _ _ (callAny (.type "set") _) _ _ _ from ?_))
  refine wpAny_pure ⟨Code.quiet_builtin _ (by decide +kernel), codeAny_builtin PySem.F.entry_type_call ?_⟩
  rw [Around.under_plain (weight_type_call_type "set" [.ref l] []) rfl]
  have f1 := PySem.F.called_set.notType
  have f2 := PySem.F.called_set.canCreate
  have f3 := PySem.F.typeCall_set_1 (.ref l)
  repeat any_goals first | assumption | wp_step
  refine codeAny_mono (code_set_new_1 (.ref l) (E := E) (Q₁ := fun u s1 => ∃ led : Bool, u = .ref s.heap.objs.size ∧ s1 = { s with heap := s.heap.push (bareSet led) }) fun led => ⟨led, rfl, rfl⟩) fun r s1 hr => ?_
  cases r with
  | error e => exact hr
  | ok fl =>
    cases fl with
    | ret u =>
      obtain ⟨led, rfl, rfl⟩ := hr
      have at0 : (s.heap.push (bareSet led)).get? s.heap.objs.size = some (bareSet led) := Heap.get?_push_size _ rfl
      have ty : Shared.TypeIs { s with heap := s.heap.push (bareSet led) } (.ref s.heap.objs.size) "set" := ⟨_, at0, rfl⟩
      have g1 := PySem.F.called_set.init.lookup
      have g2 := PySem.F.called_set.init.bind (.ref s.heap.objs.size)
      repeat any_goals first | assumption | wp_step
      refine codeAny_mono (codeAny_call_builtin (R := wants (fun r s2 => r = .none ∧ ∃ h' tk, s2 = { s with heap := h', toks := tk } ∧ h'.SetOf (PySem.strKind prog w) s.heap.objs.size (firstS xs xs.length) xs.length ∧
          (∀ b o, b < s.heap.objs.size → s.heap.get? b = some o → h'.get? b = some o)) E) PySem.F.called_set.init.plain PySem.F.entry_set_init (check_set_init_1 ty ?_)) fun r2 s2 hr2 => ?_
      · obtain ⟨⟨cl0, di0, da0, sl0⟩, ho, hc, nl, hd⟩ := lst
        simp only at hc hd
        subst hc hd
        have at1 : (s.heap.push (bareSet led)).get? l = some { cls := .type "list", dict := di0, data := .seq items nl, slots := sl0 } := Heap.get?_push_of_some _ ho
        have k1 := PySem.F.sub_list_set
        have k2 := PySem.F.sub_list_frozenset
        have k3 : (Value.type "list" == Value.type "dict") = false := by decide
        have lst1 : (s.heap.push (bareSet led)).IsList l items := ⟨_, at1, rfl, nl, rfl⟩
        unfold Builtin.«set.__init__» noKeywords
        unfold Builtin.Frozenset.updateFrom
        generalize hPI : pyIter = PI
        wp_walk
        subst hPI
        refine wpAny_pyIter_list lst1 (wpAny_bind (wpAny_runValue ?_))
        have below : l < s.heap.objs.size := Heap.lt_size ho
        have calm3 : A.in1.in1.in1.handled = none := by simp [calm]
        have apart : l ≠ (s.heap.push (bareSet led)).objs.size := by
          rw [Heap.size_push]
          exact Nat.ne_of_lt (Nat.lt_succ_of_lt below)
        have out : s.heap.objs.size ∉ [(s.heap.push (bareSet led)).objs.size, l] := by
          rw [Heap.size_push]
          intro q
          rcases List.mem_cons.mp q with q | q
          · exact Nat.ne_of_lt (Nat.lt_succ_self s.heap.objs.size) q
          · exact Nat.ne_of_gt below (List.mem_singleton.mp q)
        have sz : xs.length = items.size := by rw [← StrsAre.len_eq txt, Array.length_toList]
        refine loopS ((Walks.list calm3 _ l apart items).toS) s.heap.objs.size out xs sz nd (by rw [← sz]; exact few) (fun i v hv => SS.strs_at txt i v (by rw [Array.getElem?_toList]; exact hv)) (items.size - 0) 0 _ (by omega) (Nat.zero_le _) ⟨⟨_, Heap.get?_push_size _ rfl, rfl, rfl⟩, lst1.push _⟩ ?start ?fin
        case start =>
          exact SetOf_congr ((setObjOf_fresh (knd := PySem.strKind prog w) led).setOf (Heap.get?_push_of_some _ at0) (by unfold scanBound; omega)) (fun _ => rfl) rfl
        case fin =>
          intro s' mv set
          obtain ⟨h', g', d', tk', os'⟩ := s'
          have e1 : g' = s.gens := mv.gens
          have e2 : d' = s.drawn := mv.drawn
          have e3 : os' = s.os := mv.os
          subst e1 e2 e3
          show wpAny _ _ _ _ _ _
          refine wpAny_pure (show wpAny _ _ (ret Value.none) _ _ _ from wpAny_pure ⟨rfl, h', tk', rfl, by rw [sz]; exact set, fun b o hb e => ?_⟩)
          have n1 : b ≠ s.heap.objs.size := Nat.ne_of_lt hb
          have n2 : b ≠ (s.heap.push (bareSet led)).objs.size := by
            rw [Heap.size_push]
            exact Nat.ne_of_lt (Nat.lt_succ_of_lt hb)
          exact mv.heap b o (by simp only [List.mem_cons, List.not_mem_nil, or_false, not_or]; exact ⟨n1, n2⟩) (Heap.get?_push_of_some _ (Heap.get?_push_of_some _ e))
      · cases r2 with
        | error e => exact hr2
        | ok fl2 =>
          cases fl2 with
          | ret r =>
            obtain ⟨rfl, h', tk, rfl, a1, a2⟩ := hr2
            repeat any_goals first | assumption | wp_step
            exact h _ _ a1 a2
          | _ => exact hr2.elim
    | _ => exact hr.elim
end
end MP
namespace MP
open PySem PySem.Spec PyProof.Rows L2
/-! ### len(set(x)), x a list of texts, none twice -/
def tLenTexts (K : PySem.W.Frag) (ta : TE) : TE := fun σ H Q => ta σ H fun x H1 => ∃ (l : Addr) (xs : List Str), x = .ref l ∧ SqL K H1 l (xs.map V.str) ∧ xs.Nodup ∧ xs.length ≤ 4000 ∧ Q (.int (xs.length : Nat)) H1
theorem texts_of : ∀ {ys : List Str} {us : List Value}, Vals (ys.map V.str) us → StrsAre us ys
  | [], _, .nil => .nil
  | y :: ys, _, .cons ⟨k, rfl⟩ t => .cons y k (texts_of t)
theorem pe_lenTexts {X : Cx} {a : Expr} {ta : TE} {p p2 q pos : Pos} (calm : X.calm = true) (g1 : Gl X "len") (m1 : X.mg "len" = none) (g2 : Gl X "set") (m2 : X.mg "set" = none) (ha : PE X a ta) (na : starEach [a] X.env = (false, eval a X.env) :: starEach [] X.env) :
    PE X (.Call (.Name "len" p) [.Call (.Name "set" p2) [a] [] q] [] pos) (tLenTexts X.K ta) := by
  refine ⟨fun pins s σ H Q I h => Call_ (ld_blt I g1 m1 boot_len (callWith_builtin1 (args_cons ?_ rfl) rfl rfl))⟩
  refine Call_ (ld_blt I g2 m2 boot_set (callWith_type1 (args_cons (thn (ha.run pins s σ H _ I h) fun v s1 ⟨x, H1, I1, r1, q1⟩ => args_nil ?_) na) na rfl))
  obtain ⟨l, xs, rfl, hq, nd, few, q1⟩ := q1
  cases r1
  obtain ⟨its, r, pl, hz⟩ := I1.list hq
  refine set_of_texts (I1.ok.hd calm) pl.isList (by simpa using texts_of r) nd (by unfold scanBound; omega) fun h' tk st keep => args_nil ?_
  obtain ⟨o, es, ep, t, ho, hex, hd, _, _, _, hf, hn⟩ := st
  have I2 : Inv X pins σ H1 { s1 with heap := h', toks := tk } := I1.kept fun b o e => keep b o (Heap.lt_size e) e
  exact call_len_set ho hex hd hf (by rw [hn] <;> omega) ⟨.int xs.length, H1, I2.tok _, ⟨_, by rw [hn]⟩, q1⟩
end MP
namespace MP
open PySem PySem.Spec PyProof.Rows L2
def strsOf : List D → Option (List Str)
  | [] => some []
  | .str s :: r => match strsOf r with
    | some l => some (s :: l)
    | none => none
  | _ => none
theorem strsOf_ok : ∀ {l : List D} {xs : List Str}, strsOf l = some xs → l = xs.map D.str
  | [], xs, h => by
    cases h
    rfl
  | d :: r, xs, h => by
    cases d <;> simp only [strsOf] at h <;> first | (cases h; done) | skip
    rename_i s
    cases e : strsOf r with
    | none => rw [e] at h; cases h
    | some l =>
      rw [e] at h
      cases h
      rw [strsOf_ok e]
      rfl
theorem vr_texts {K : PySem.W.Frag} {H : Hp} {β : List Addr} : ∀ {vs : List V} {xs : List Str}, VRs K H β vs (xs.map D.str) → vs = xs.map V.str
  | _, [], .nil => rfl
  | _, x :: r, .cons h t => by
    cases h
    rw [vr_texts t]
    rfl
def fLenSet (fa : FE) : FE := fun env S => match fa env S with
  | some (.ref n, S1) => match itemsAt S1 n with
    | some l => match strsOf l with
      | some xs => if xs.Nodup ∧ xs.length ≤ 4000 then some (.int (xs.length : Nat), S1) else none
      | none => none
    | none => none
  | _ => none
theorem T_lenSet {X : Cx} {a : Expr} {fa : FE} {p p2 q pos : Pos} (calm : X.calm = true) (g1 : Gl X "len") (m1 : X.mg "len" = none) (g2 : Gl X "set") (m2 : X.mg "set" = none) (ha : PE X a (T X.K fa)) (hst : ∀ x y, a ≠ Expr.Starred x y) :
    PE X (.Call (.Name "len" p) [.Call (.Name "set" p2) [a] [] q] [] pos) (T X.K (fLenSet fa)) := PE.to (pe_lenTexts calm g1 m1 g2 m2 ha (by rw [star_cons hst])) fun σ H Q ⟨β, env, S, d, S', r0, er, h, k⟩ => by
  unfold fLenSet at h
  cases h1 : fa env S with
  | none => rw [h1] at h; cases h
  | some p1 =>
    obtain ⟨d1, S1⟩ := p1
    rw [h1] at h
    cases d1 <;> first | (simp only at h; cases h; done) | skip
    rename_i n
    simp only at h
    cases h2 : itemsAt S1 n with
    | none => rw [h2] at h; cases h
    | some l =>
      simp only [h2] at h
      cases h3 : strsOf l with
      | none => rw [h3] at h; cases h
      | some xs =>
        simp only [h3] at h
        split at h
        · rename_i c
          cases h
          refine ⟨β, env, S, _, _, r0, er, h1, fun β1 v1 H1 l1 x1 r1 vr1 => ?_⟩
          cases vr1 with
          | ref hn =>
            obtain ⟨vs, e1, e2⟩ := r1.items hn h2
            rw [strsOf_ok h3] at e2
            rw [vr_texts e2] at e1
            exact ⟨_, xs, rfl, e1, c.1, c.2, k β1 _ H1 l1 x1 r1 (.int _)⟩
        · cases h
end MP
namespace MP
open PySem L2 PySem.Spec PyProof.Rows
/-! ### the small language -/
inductive Op2 | add | sub | mul | fdv | mod | pow | shl | shr | band | bor | bxor
def Op2.den : Op2 → O2
  | .add => oAdd | .sub => oSub | .mul => oMul | .fdv => oFdv | .mod => oMod | .pow => oPow | .shl => oShl | .shr => oShr | .band => oAnd | .bor => oOr | .bxor => oXor
inductive CO | eq | ne | lt | le | gt | ge | is | isn | isin | nin
def CO.den : CO → O2
  | .eq => oEq | .ne => oNe | .lt => oLt | .le => oLe | .gt => oGt | .ge => oGe | .is => oIs | .isn => oIsn | .isin => oIn | .nin => oNin
inductive Sr | seq | rng | zip | enm | rng3 | rev | revr
inductive Mt | app | ext
def Mt.den : Mt → O2
  | .app => oApp
  | .ext => oExt
noncomputable def Bn.den : Bn → ON
  | .int => bInt | .abs => bAbs | .len => bLen | .divmod => bDivmod | .max => bMax | .min => bMin | .sum => bSum | .all => bAll | .any => bAny | .list => bList | .tuple => bTuple | .isi t => bIsi t | .repr => bRepr | .str => bStr
mutual
inductive E where
  | c (d : D)
  | var (i : Nat)
  | bin (o : Op2) (a b : E)
  | cmp (o : CO) (a b : E)
  | chain (o o' : CO) (a b c : E)
  | not (a : E)
  | neg (a : E)
  | and (a b : E)
  | or (a b : E)
  | ite (c a b : E)
  | tup (l : Es)
  | lst (l : Es)
  | idx (a b : E)
  | sl (a : E) (lo hi : Es)
  | blt (b : Bn) (l : Es)
  | call (f : Nat) (l : Es)
  | callK (f : Nat) (pm : List Nat) (l : Es)
  | meth (m : Mt) (o a : E)
  | split (o a : E)
  | lenset (a : E)
  | lc (s : Sr) (l : Es) (t : Tn) (c e : E) (own : List Nat)
  | dict0
inductive Es where
  | nil
  | cons (a : E) (r : Es)
end
def fDict0 : FE := fun _ S => some (.ref S.length, S ++ [.dct])
def hd (fa : FA) : FE := fun env S => match fa env S with
  | some ([d], S1) => some (d, S1)
  | _ => none
def partA (fa : FA) : FO := fun env S => match fa env S with
  | some ([], S1) => some (none, S1)
  | some ([.int i], S1) => some (some i, S1)
  | _ => none
def srcD : Sr → FA → FI
  | .seq, fa => iSeq (hd fa)
  | .rng, fa => iRange fa
  | .zip, fa => iZipD fa
  | .enm, fa => iEnumD fa
  | .rng3, fa => iRange3 fa
  | .rev, fa => iRevD (hd fa)
  | .revr, fa => iRevRng fa
mutual
noncomputable def ev (cl : Nat → ON) : E → FE
  | .c d => fC d
  | .var i => fVar i
  | .bin o a b => f2 o.den (ev cl a) (ev cl b)
  | .cmp o a b => f2 o.den (ev cl a) (ev cl b)
  | .chain o o' a b c => fChain o.den o'.den (ev cl a) (ev cl b) (ev cl c)
  | .not a => fNot (ev cl a)
  | .neg a => f1 oNeg (ev cl a)
  | .and a b => fAnd (ev cl a) (ev cl b)
  | .or a b => fOr (ev cl a) (ev cl b)
  | .ite c a b => fIte (ev cl c) (ev cl a) (ev cl b)
  | .tup l => fTup (evs cl l)
  | .lst l => fLst (evs cl l)
  | .idx a b => f2 oIdx (ev cl a) (ev cl b)
  | .sl a lo hi => fSl (ev cl a) (partA (evs cl lo)) (partA (evs cl hi))
  | .blt b l => fN b.den (evs cl l)
  | .call f l => fN (cl f) (evs cl l)
  | .callK f pm l => fN (cl f) (fPerm pm (evs cl l))
  | .meth m o a => fM m.den (ev cl o) (ev cl a)
  | .split o a => f2 oSplit (ev cl o) (ev cl a)
  | .lenset a => fLenSet (ev cl a)
  | .lc s l t c e own => fLc (srcD s (evs cl l)) t (ev cl c) (ev cl e) own
  | .dict0 => fDict0
noncomputable def evs (cl : Nat → ON) : Es → FA
  | .nil => fNil
  | .cons a r => fCons (ev cl a) (evs cl r)
end
mutual
inductive Sm where
  | asg (t : Tn) (e : E)
  | sub (o i e : E)
  | subv (o i : E) (j : Nat) (e : E)
  | ex (e : E)
  | ret (e : E)
  | cond (c : E) (a b : Ss)
  | loop (s : Sr) (l : Es) (t : Tn) (b : Ss)
  | wh (c : E) (b : Ss)
  | brk
  | cont
  | pass
  | never
inductive Ss where
  | nil
  | cons (a : Sm) (r : Ss)
end
mutual
noncomputable def sm (cl : Nat → ON) : Sm → FS
  | .asg t e => sAsg t (ev cl e)
  | .sub o i e => sSub (ev cl o) (ev cl i) (ev cl e)
  | .subv o i j e => sSubV (ev cl o) (ev cl i) j (ev cl e)
  | .ex e => sExpr (ev cl e)
  | .ret e => sRet (ev cl e)
  | .cond c a b => sIf (ev cl c) (ss cl a) (ss cl b)
  | .loop s l t b => sFor t (srcD s (evs cl l)) (ss cl b)
  | .wh c b => sWhile (ev cl c) (ss cl b)
  | .brk => sBrk
  | .cont => sCont
  | .pass => sNext
  | .never => sNever
noncomputable def ss (cl : Nat → ON) : Ss → FS
  | .nil => sNext
  | .cons a r => sSeq (sm cl a) (ss cl r)
end
structure Fn where
  np : Nat
  nl : Nat
  body : Ss
/-- a def's body from its arguments -/
noncomputable def runF (cl : Nat → ON) (fn : Fn) : ON := fun ds S => if ds.length = fn.np then match ss cl fn.body (ds.map some ++ List.replicate (fn.nl - fn.np) none) S with
    | some (.ret d, _, S1) => some (d, S1)
    | some (.next, _, S1) => some (.non, S1)
    | _ => none
  else none
/-- the f-th def, at most k calls deep -/
noncomputable def callF (P : List Fn) : Nat → Nat → ON
  | 0 => fun _ _ _ => none
  | k + 1 => fun f ds S => match P[f]? with
    | some fn => runF (callF P k) fn ds S
    | none => none

/-! ### the text in the small language -/
inductive Gk where
  | fn (i : Nat) (ps : List Str) (kws : List (List Str × List Nat))
  | con (d : D)
structure Tc where
  N : List Str
  G : List (Str × Gk)
def findIx : List Str → Str → Option Nat
  | [], _ => none
  | y :: r, x => if y = x then some 0 else match findIx r x with
    | some i => some (i + 1)
    | none => none
theorem findIx_ok : ∀ {N : List Str} {x : Str} {i : Nat}, findIx N x = some i → N[i]? = some x
  | [], _, _, h => by cases h
  | y :: r, x, i, h => by
    unfold findIx at h
    split at h
    · rename_i e
      cases h
      rw [e]
      rfl
    · cases h1 : findIx r x with
      | none => rw [h1] at h; cases h
      | some j =>
        rw [h1] at h
        cases h
        simpa using findIx_ok h1
def isStar : Expr → Bool
  | .Starred _ _ => true
  | _ => false
theorem star_not {e : Expr} (h : isStar e = false) : ∀ a b, e ≠ .Starred a b := by
  intro a b q
  subst q
  cases h
def visB (sc : Scope) (x : Str) : Bool := match sc.names.lookup x with
  | some .local => true
  | some .cell => true
  | some .free => true
  | _ => false
theorem visB_ok {sc : Scope} {x : Str} (h : visB sc x = true) : Vis sc x := by
  unfold visB at h
  split at h
  · rename_i e; exact .inl e
  · rename_i e; exact .inr (.inl e)
  · rename_i e; exact .inr (.inr e)
  · cases h
def glB (sc : Scope) (x : Str) : Bool := match sc.names.lookup x with
  | some .globalImplicit => true
  | _ => false
theorem glB_ok {X : Cx} {x : Str} (h : glB X.env.scope x = true) : Gl X x := by
  unfold glB at h
  split at h
  · rename_i e; exact e
  · cases h
def okName (x : Str) : Bool := !(x == ("__debug__" : Str)) && !(x == ("__classdict__" : Str)) && !(x == ("__name__" : Str))
theorem okName_ok {x : Str} (h : okName x = true) : (x == ("__debug__" : Str)) = false ∧ (x == ("__classdict__" : Str)) = false ∧ x ≠ "__name__" := by
  unfold okName at h
  simp only [Bool.and_eq_true, Bool.not_eq_true', beq_eq_false_iff_ne, ne_eq] at h
  exact ⟨by simpa using h.1.1, by simpa using h.1.2, h.2⟩
def gkOf (tc : Tc) (x : Str) : Option Gk := (tc.G.find? fun p => p.1 == x).map (·.2)
def trName (tc : Tc) (sc : Scope) (x : Str) : Option E :=
  if okName x = true then
    if visB sc x = true then match findIx tc.N x with
      | some i => some (.var i)
      | none => none
    else if glB sc x = true then match gkOf tc x with
      | some (.con d) => some (.c d)
      | _ => none
    else none
  else none
def trBop : Operator → Option Op2
  | .Add => some .add | .Sub => some .sub | .Mult => some .mul | .FloorDiv => some .fdv | .Mod => some .mod | .Pow => some .pow | .LShift => some .shl | .RShift => some .shr | .BitAnd => some .band | .BitOr => some .bor | .BitXor => some .bxor
  | _ => none
def trCop : CmpOp → Option CO
  | .Eq => some .eq | .NotEq => some .ne | .Lt => some .lt | .LtE => some .le | .Gt => some .gt | .GtE => some .ge | .Is => some .is | .IsNot => some .isn | .In => some .isin | .NotIn => some .nin
def trBlt (x : Str) : Option Bn :=
  if x = "int" then some .int else if x = "abs" then some .abs else if x = "len" then some .len else if x = "divmod" then some .divmod else if x = "max" then some .max else if x = "min" then some .min else if x = "sum" then some .sum
  else if x = "all" then some .all else if x = "any" then some .any else if x = "list" then some .list else if x = "tuple" then some .tuple else if x = "repr" then some .repr else if x = "str" then some .str else none
def trTy (x : Str) : Option Ty :=
  if x = "int" then some .int else if x = "bool" then some .bl else if x = "str" then some .str else if x = "tuple" then some .tup else if x = "list" then some .lst else if x = "dict" then some .dct else none
def trMt (x : Str) : Option Mt := if x = "append" then some .app else if x = "extend" then some .ext else none
def trEs (f : Expr → Option E) : List Expr → Option Es
  | [] => some .nil
  | e :: r => if isStar e = true then none else match f e, trEs f r with
    | some a, some b => some (.cons a b)
    | _, _ => none
def trB (f : Expr → Option E) (o : E → E → E) : List Expr → Option E
  | [] => none
  | [e] => f e
  | e :: e2 :: r => match f e, trB f o (e2 :: r) with
    | some a, some b => some (o a b)
    | _, _ => none
def trOp (f : Expr → Option E) : Option Expr → Option Es
  | none => some .nil
  | some e => match f e with
    | some a => some (.cons a .nil)
    | none => none
def trKw (f : Expr → Option E) : List Keyword → Option Es
  | [] => some .nil
  | k :: r => if k.arg.isSome = true then match f k.value, trKw f r with
      | some a, some b => some (.cons a b)
      | _, _ => none
    else none
/-! a target of names -/
mutual
def trTn (tc : Tc) (sc : Scope) (fnc : Str → Bool) : Nat → Expr → Option Tn
  | 0, _ => none
  | n + 1, e => match e with
    | .Name x _ => match sc.names.lookup x with
      | some .local => match findIx tc.N x with
        | some i => some (.nm i)
        | none => none
      | some .cell => if fnc x = true then match findIx tc.N x with
          | some i => some (.nm i)
          | none => none
        else none
      | _ => none
    | .Tuple es _ _ => match trTns tc sc fnc n es with
      | some ts => some (.tu ts)
      | none => none
    | _ => none
def trTns (tc : Tc) (sc : Scope) (fnc : Str → Bool) : Nat → List Expr → Option (List Tn)
  | 0, _ => none
  | _ + 1, [] => some []
  | n + 1, e :: r => if isStar e = true then none else match trTn tc sc fnc n e, trTns tc sc fnc n r with
    | some a, some b => some (a :: b)
    | _, _ => none
end
def isTup : Expr → Bool
  | .Tuple _ _ _ => true
  | _ => false
/-- the one argument of a call by name -/
def oneArg : Expr → Option (Str × Expr)
  | .Call (.Name y _) [a] [] _ => some (y, a)
  | _ => none
def trSrc (tc : Tc) (sc : Scope) (f : Expr → Option E) (tg iter : Expr) : Option (Sr × Es) := match iter with
  | .Call (.Name x _) args [] _ =>
    if glB sc x = true ∧ gkOf tc x = none ∧ x = "range" then match args with
      | [a] => (trEs f [a]).map fun l => (.rng, l)
      | [a, b] => (trEs f [a, b]).map fun l => (.rng, l)
      | [a, b, c] => (trEs f [a, b, c]).map fun l => (.rng3, l)
      | _ => none
    else if glB sc x = true ∧ gkOf tc x = none ∧ x = "zip" ∧ isTup tg = true then match args with
      | [a, b] => (trEs f [a, b]).map fun l => (.zip, l)
      | [a, b, c] => (trEs f [a, b, c]).map fun l => (.zip, l)
      | _ => none
    else if glB sc x = true ∧ gkOf tc x = none ∧ x = "enumerate" ∧ isTup tg = true then match args with
      | [a] => (trEs f [a]).map fun l => (.enm, l)
      | _ => none
    else if glB sc x = true ∧ gkOf tc x = none ∧ x = "reversed" then match args with
      | [e] => match oneArg e with
        | some (y, a) => if glB sc y = true ∧ gkOf tc y = none ∧ y = "range" then (trEs f [a]).map fun l => (.revr, l) else (trEs f [e]).map fun l => (.rev, l)
        | none => (trEs f [e]).map fun l => (.rev, l)
      | _ => none
    else (trEs f [iter]).map fun l => (.seq, l)
  | _ => (trEs f [iter]).map fun l => (.seq, l)
/-- the block's own names, with their places -/
def ownOf (N : List Str) (scope : Scope) : List (Str × Nat) := scope.names.filterMap fun p => match p.2 with
  | .local => (findIx N p.1).map fun i => (p.1, i)
  | .cell => (findIx N p.1).map fun i => (p.1, i)
  | _ => none
def trIfs (f : Expr → Option E) : List Expr → Option E
  | [] => some (.c (.bl true))
  | [c] => f c
  | _ => none
def isCall0 : Expr → Bool
  | .Call _ [] [] _ => true
  | _ => false
def sliceOf : Expr → Option (Option Expr × Option Expr)
  | .Slice lo hi none _ => some (lo, hi)
  | _ => none
/-- len(set(a)) -/
def setArg (tc : Tc) (sc : Scope) (x : Str) (args : List Expr) : Option Expr := match args with
  | [e] => match oneArg e with
    | some (y, a) => if x = "len" ∧ y = "set" ∧ glB sc y = true ∧ gkOf tc y = none ∧ isStar a = false then some a else none
    | none => none
  | _ => none
def isSlice : Expr → Bool
  | .Slice _ _ _ _ => true
  | _ => false
def trE (tc : Tc) : Nat → Scope → (Str → Bool) → Expr → Option E
  | 0, _, _, _ => none
  | n + 1, sc, fnc, e => match e with
    | .Constant (.int i) _ _ => some (.c (.int i))
    | .Constant (.bool b) _ _ => some (.c (.bl b))
    | .Constant .none _ _ => some (.c .non)
    | .Constant (.str s) _ _ => some (.c (.str s))
    | .Name x _ => trName tc sc x
    | .BinOp a o b _ => match trBop o, trE tc n sc fnc a, trE tc n sc fnc b with
      | some o', some a', some b' => some (.bin o' a' b')
      | _, _, _ => none
    | .UnaryOp .Not a _ => (trE tc n sc fnc a).map .not
    | .UnaryOp .USub a _ => (trE tc n sc fnc a).map .neg
    | .BoolOp .And l _ => trB (trE tc n sc fnc) .and l
    | .BoolOp .Or l _ => trB (trE tc n sc fnc) .or l
    | .IfExp c a b _ => match trE tc n sc fnc c, trE tc n sc fnc a, trE tc n sc fnc b with
      | some c', some a', some b' => some (.ite c' a' b')
      | _, _, _ => none
    | .Compare a [o] [b] _ => match trCop o, trE tc n sc fnc a, trE tc n sc fnc b with
      | some o', some a', some b' => some (.cmp o' a' b')
      | _, _, _ => none
    | .Compare a [o, o2] [b, c] _ => match trCop o, trCop o2, trE tc n sc fnc a, trE tc n sc fnc b, trE tc n sc fnc c with
      | some o', some o2', some a', some b', some c' => some (.chain o' o2' a' b' c')
      | _, _, _, _, _ => none
    | .Tuple es _ _ => (trEs (trE tc n sc fnc) es).map .tup
    | .List es _ => (trEs (trE tc n sc fnc) es).map .lst
    | .Subscript a b _ => match sliceOf b with
      | some (lo, hi) => match trE tc n sc fnc a, trOp (trE tc n sc fnc) lo, trOp (trE tc n sc fnc) hi with
        | some a', some lo', some hi' => some (.sl a' lo' hi')
        | _, _, _ => none
      | none => if isSlice b = true then none else match trE tc n sc fnc a, trE tc n sc fnc b with
        | some a', some b' => some (.idx a' b')
        | _, _ => none
    | .Call (.Name x _) args kws _ =>
      if okName x = true ∧ glB sc x = true then
        match gkOf tc x with
        | some (.fn i ps ks) => match kws with
          | [] => if args.length = ps.length then (trEs (trE tc n sc fnc) args).map (.call i) else none
          | kws => if args = [] then match ks.find? (fun p => p.1 == kws.filterMap (·.arg)), trKw (trE tc n sc fnc) kws with
              | some p, some l => if p.2.length = ps.length ∧ kws.length = p.1.length then some (.callK i p.2 l) else none
              | _, _ => none
            else none
        | some (.con _) => none
        | none => match kws with
          | [] =>
            if x = "isinstance" then match args with
              | [a, .Name y _] => if okName y = true ∧ glB sc y = true ∧ gkOf tc y = none ∧ isStar a = false then match trTy y, trE tc n sc fnc a with
                  | some t, some a' => some (.blt (.isi t) (.cons a' .nil))
                  | _, _ => none
                else none
              | _ => none
            else match setArg tc sc x args with
              | some a => (trE tc n sc fnc a).map .lenset
              | none => match trBlt x, args with
                | some b, a :: r => (trEs (trE tc n sc fnc) (a :: r)).map (.blt b)
                | _, _ => none
          | _ => none
      else none
    | .Call (.Attribute o m apos) [a] [] cpos => if isStar a = false ∧ (apos.endLine == cpos.line) = true ∧ isCall0 o = false then if m = "split" then match trE tc n sc fnc o, trE tc n sc fnc a with
          | some o', some a' => some (.split o' a')
          | _, _ => none
        else match trMt m, trE tc n sc fnc o, trE tc n sc fnc a with
        | some m', some o', some a' => some (.meth m' o' a')
        | _, _, _ => none
      else none
    | .ListComp elt [⟨tg, iter, ifs, asy⟩] scope _ =>
      if asy = 0 ∧ blkC tc.N sc scope (ownOf tc.N scope) = true then
        match trSrc tc sc (trE tc n sc fnc) tg iter, trTn tc (relS scope sc) (fun x => scope.names.lookup x == some NameKind.cell) n tg, trE tc n (relS scope sc) (fun x => scope.names.lookup x == some NameKind.cell) elt, trIfs (trE tc n (relS scope sc) (fun x => scope.names.lookup x == some NameKind.cell)) ifs with
        | some (s, l), some t, some e', some c' => if (t.ix.all fun j => ((ownOf tc.N scope).map (·.2)).contains j) = true then some (.lc s l t c' e' ((ownOf tc.N scope).map (·.2))) else none
        | _, _, _, _ => none
      else none
    | .Dict [] [] _ => some .dict0
    | _ => none
end MP
namespace MP
open PySem L2 PySem.Spec PyProof.Rows
/-! ### the small language tells what the text does -/
def bltNames : List Str := ["int", "abs", "len", "divmod", "max", "min", "sum", "all", "any", "list", "tuple", "repr", "isinstance", "bool", "str", "dict", "range", "zip", "enumerate", "reversed", "set", "sorted"]
structure Ok (P : List Fn) (k : Nat) (tc : Tc) (X : Cx) (sc : Scope) (fnc : Str → Bool) : Prop where
  scope : X.env.scope = sc
  fk : sc.kind = .function
  N : X.N = tc.N
  nd : tc.N.Nodup
  calm : X.calm = true
  guards : X.A.guards = some []
  room : Room k X.A
  fn : ∀ x, fnc x = true → X.fn x = true
  con : ∀ x d, gkOf tc x = some (.con d) → ∃ u v, X.mg x = some u ∧ RelV v u ∧ ∀ H β, VR X.K H β v d
  fns : ∀ x i ps ks, gkOf tc x = some (.fn i ps ks) → ∃ f fd, X.mg x = some (.ref f) ∧ PySem.W.keepIn X.K (.ref f) = true ∧ FnG X.prog X.w X.K X.mg X.base k f fd ps (spG X.K ps.length (callF P k i)) ∧
    (∀ (s : Shared) (us : List Value), us.length = ps.length → BindsTo s fd ⟨us, []⟩ (ps.zip us)) ∧ ∀ p ∈ ks, ∀ (s : Shared) (us ws : List Value), us.length = p.1.length → permD p.2 us = some ws → BindsTo s fd ⟨[], p.1.zip us⟩ (ps.zip ws)
  blt : ∀ x ∈ bltNames, gkOf tc x = none → X.mg x = none
section
variable {P : List Fn} {k : Nat} {tc : Tc} {X : Cx} {sc : Scope} {fnc : Str → Bool}
theorem Ok.units (ok : Ok P k tc X sc fnc) : X.A.units + 64 < cLine := ok.room.units
theorem bop_ok {o : Operator} {o' : Op2} (h : trBop o = some o') : OpR X (binaryOp o) (RO X.K o'.den) := by
  cases o <;> simp only [trBop] at h <;> cases h
  · exact or_add
  · exact or_sub
  · exact or_mul
  · exact or_mod
  · exact or_pow
  · exact or_shl
  · exact or_shr
  · exact or_or
  · exact or_xor
  · exact or_and
  · exact or_fdv
theorem cop_ok (hu : X.A.units + 64 < cLine) {o : CmpOp} {o' : CO} (h : trCop o = some o') : OpR X (compareOp o) (RO X.K o'.den) := by
  cases o <;> simp only [trCop] at h <;> cases h
  · exact or_eq hu
  · exact or_ne hu
  · exact or_lt
  · exact or_le
  · exact or_gt
  · exact or_ge
  · exact or_is
  · exact or_isn
  · exact or_in
  · exact or_nin
theorem tr_notSet {n : Nat} {e : Expr} {m : E} (h : trE tc n sc fnc e = some m) : ∀ es j p, e ≠ .Set es j p := by
  intro es j p q
  subst q
  cases n with
  | zero => cases h
  | succ n => simp only [trE] at h; cases h
theorem marks_no {e : Expr} (h : ∀ es j p, e ≠ Expr.Set es j p) (op : CmpOp) : behindInMarks op e = false := by
  cases e <;> first | rfl | exact absurd rfl (h _ _ _)
theorem fold_no {e : Expr} (h : ∀ es j p, e ≠ Expr.Set es j p) (env : PySem.Env) (x : Value) : foldedSetIterable e env x = pure x := by
  cases e <;> first | rfl | exact absurd rfl (h _ _ _)
theorem plain_ix {e : Expr} (h : isSlice e = false) : PlainIx e := by
  intro o i
  cases e <;> first | rfl | cases h
theorem hd_cons (f : FE) : hd (fCons f fNil) = f := by
  funext env S
  unfold hd fCons fNil
  cases f env S with
  | none => rfl
  | some p => rfl
theorem part_nil : partA fNil = fNo := rfl
theorem part_cons (f : FE) : partA (fCons f fNil) = fPart f := by
  funext env S
  unfold partA fCons fNil fPart
  cases f env S with
  | none => rfl
  | some p =>
    obtain ⟨d, S1⟩ := p
    cases d <;> rfl
/-- argument lists -/
theorem es_ok {f : Expr → Option E} {cl : Nat → ON} (ih : ∀ e m, f e = some m → PE X e (T X.K (ev cl m))) : ∀ {es : List Expr} {l : Es}, trEs f es = some l →
    PA X es (TA' X.K (evs cl l)) ∧ (∀ env S ds S', evs cl l env S = some (ds, S') → ds.length = es.length) ∧ ∀ e ∈ es, ∀ a b, e ≠ Expr.Starred a b
  | [], l, h => by
    cases h
    refine ⟨?_, fun env S ds S' h => ?_, fun e he => by cases he⟩
    · simp only [evs]
      exact T_args_nil
    · simp only [evs] at h
      cases h
      rfl
  | e :: r, l, h => by
    simp only [trEs] at h
    split at h
    · cases h
    · rename_i hs
      have hs' : isStar e = false := by simpa using hs
      cases h1 : f e with
      | none => simp only [h1] at h; cases h
      | some a =>
        cases h2 : trEs f r with
        | none => simp only [h1, h2] at h; cases h
        | some b =>
          simp only [h1, h2] at h
          cases h
          obtain ⟨q1, q2, q3⟩ := es_ok ih h2
          refine ⟨?_, fun env S ds S' h => ?_, fun e' he => ?_⟩
          · simp only [evs]
            exact T_args_cons (ih e a h1) q1 (star_not hs')
          · simp only [evs] at h
            unfold fCons at h
            cases h3 : ev cl a env S with
            | none => simp only [h3] at h; cases h
            | some p =>
              obtain ⟨d, S1⟩ := p
              simp only [h3] at h
              cases h4 : evs cl b env S1 with
              | none => simp only [h4] at h; cases h
              | some p2 =>
                obtain ⟨ds2, S2⟩ := p2
                simp only [h4] at h
                cases h
                simp [q2 _ _ _ _ h4]
          · rcases List.mem_cons.mp he with rfl | he
            · exact star_not hs'
            · exact q3 e' he
theorem kw_ok {f : Expr → Option E} {cl : Nat → ON} (ih : ∀ e m, f e = some m → PE X e (T X.K (ev cl m))) : ∀ {kws : List Keyword} {l : Es}, trKw f kws = some l →
    PK X kws (TA' X.K (evs cl l)) ∧ (∀ env S ds S', evs cl l env S = some (ds, S') → ds.length = kws.length) ∧ ∀ k ∈ kws, k.arg.isSome = true
  | [], l, h => by
    cases h
    refine ⟨?_, fun env S ds S' h => ?_, fun e he => by cases he⟩
    · simp only [evs]
      exact T_kw_nil
    · simp only [evs] at h
      cases h
      rfl
  | ⟨nm, v, kp⟩ :: r, l, h => by
    simp only [trKw] at h
    split at h
    · rename_i hs
      cases h1 : f v with
      | none => simp only [h1] at h; cases h
      | some a =>
        cases h2 : trKw f r with
        | none => simp only [h1, h2] at h; cases h
        | some b =>
          simp only [h1, h2] at h
          cases h
          obtain ⟨q1, q2, q3⟩ := kw_ok ih h2
          refine ⟨?_, fun env S ds S' h => ?_, fun k' hk => ?_⟩
          · simp only [evs]
            exact T_kw_cons (ih v a h1) q1
          · simp only [evs] at h
            unfold fCons at h
            cases h3 : ev cl a env S with
            | none => simp only [h3] at h; cases h
            | some p =>
              obtain ⟨d, S1⟩ := p
              simp only [h3] at h
              cases h4 : evs cl b env S1 with
              | none => simp only [h4] at h; cases h
              | some p2 =>
                obtain ⟨ds2, S2⟩ := p2
                simp only [h4] at h
                cases h
                simp [q2 _ _ _ _ h4]
          · rcases List.mem_cons.mp hk with rfl | hk
            · exact hs
            · exact q3 k' hk
    · cases h
theorem kw_len : ∀ {kws : List Keyword}, (∀ k ∈ kws, k.arg.isSome = true) → (kws.filterMap (·.arg)).length = kws.length
  | [], _ => rfl
  | ⟨a, b, c⟩ :: r, h => by
    have h1 : a.isSome = true := h _ List.mem_cons_self
    have h2 := kw_len fun k hk => h k (List.mem_cons_of_mem ⟨a, b, c⟩ hk)
    cases a with
    | none => cases h1
    | some x => simp [List.filterMap_cons, h2]
/-- and, or -/
theorem and_ok {f : Expr → Option E} {cl : Nat → ON} {pos : Pos} (ih : ∀ e m, f e = some m → PE X e (T X.K (ev cl m)) ∧ PT X e (TB X.K (fB (ev cl m)))) : ∀ {l : List Expr} {m : E}, trB f .and l = some m →
    PE X (.BoolOp .And l pos) (T X.K (ev cl m)) ∧ PW X (.BoolOp .And l pos) (TB X.K (fB (ev cl m)))
  | [], _, h => by cases h
  | [e], m, h => ⟨pe_one (ih e m h).1, pw_and1 (ih e m h).2⟩
  | e :: e2 :: r, m, h => by
    simp only [trB] at h
    cases h1 : f e with
    | none => simp only [h1] at h; cases h
    | some a =>
      cases h2 : trB f .and (e2 :: r) with
      | none => simp only [h1, h2] at h; cases h
      | some b =>
        simp only [h1, h2] at h
        cases h
        obtain ⟨q1, q2⟩ := and_ok ih h2
        simp only [ev]
        exact ⟨T_and1 (ih e a h1).1 q1, T_andT (ih e a h1).2 q2⟩
theorem or_ok {f : Expr → Option E} {cl : Nat → ON} {pos : Pos} (ih : ∀ e m, f e = some m → PE X e (T X.K (ev cl m)) ∧ PT X e (TB X.K (fB (ev cl m)))) : ∀ {l : List Expr} {m : E}, trB f .or l = some m →
    PE X (.BoolOp .Or l pos) (T X.K (ev cl m)) ∧ PW X (.BoolOp .Or l pos) (TB X.K (fB (ev cl m)))
  | [], _, h => by cases h
  | [e], m, h => ⟨pe_one (ih e m h).1, pw_or1 (ih e m h).2⟩
  | e :: e2 :: r, m, h => by
    simp only [trB] at h
    cases h1 : f e with
    | none => simp only [h1] at h; cases h
    | some a =>
      cases h2 : trB f .or (e2 :: r) with
      | none => simp only [h1, h2] at h; cases h
      | some b =>
        simp only [h1, h2] at h
        cases h
        obtain ⟨q1, q2⟩ := or_ok ih h2
        simp only [ev]
        exact ⟨T_or1 (ih e a h1).1 q1, T_orT (ih e a h1).2 q2⟩
theorem T_iteT {a b c : Expr} {fa fb fc : FE} {pos : Pos} (hc : PT X c (TB X.K (fB fc))) (ha : PT X a (TB X.K (fB fa))) (hb : PT X b (TB X.K (fB fb))) : PT X (.IfExp c a b pos) (TB X.K (fB (fIte fc fa fb))) := by
  refine ⟨fun pins s σ H Q I ⟨β, env, S, d, S', r, er, e, q⟩ => ?_⟩
  have e1 := fB_ok e
  unfold fIte at e1
  refine isTrue_IfExp ?_
  split at e1
  · rename_i S1 e2
    refine thn (hc.run pins s σ H (fun b H1 => b = true ∧ ∃ β1, Le β β1 ∧ Ext X.K H H1 ∧ R X.K β1 H1 S1) I ⟨β, env, S, true, S1, r, er, by unfold fB; rw [e2], fun β1 H1 l1 x1 r1 => ⟨rfl, β1, l1, x1, r1⟩⟩) fun b s1 ⟨H1, I1, hb', β1, l1, x1, r1⟩ => ?_
    subst hb'
    rw [if_pos rfl]
    exact ha.run pins s1 σ H1 Q I1 ⟨β1, env, S1, d, S', r1, er.mono x1 l1, by unfold fB; rw [e1], fun β' H' l x r' => q β' H' (l1.trans l) (x1.trans x) r'⟩
  · rename_i S1 e2
    refine thn (hc.run pins s σ H (fun b H1 => b = false ∧ ∃ β1, Le β β1 ∧ Ext X.K H H1 ∧ R X.K β1 H1 S1) I ⟨β, env, S, false, S1, r, er, by unfold fB; rw [e2], fun β1 H1 l1 x1 r1 => ⟨rfl, β1, l1, x1, r1⟩⟩) fun b s1 ⟨H1, I1, hb', β1, l1, x1, r1⟩ => ?_
    subst hb'
    rw [if_neg (by decide)]
    exact hb.run pins s1 σ H1 Q I1 ⟨β1, env, S1, d, S', r1, er.mono x1 l1, by unfold fB; rw [e1], fun β' H' l x r' => q β' H' (l1.trans l) (x1.trans x) r'⟩
  · cases e1
theorem name_ok (ok : Ok P k tc X sc fnc) {x : Str} {m : E} {pos : Pos} {cl : Nat → ON} (h : trName tc sc x = some m) : PE X (.Name x pos) (T X.K (ev cl m)) := by
  unfold trName at h
  split at h
  · rename_i hn
    obtain ⟨n1, n2, n3⟩ := okName_ok hn
    split at h
    · rename_i hv
      cases h1 : findIx tc.N x with
      | none => rw [h1] at h; cases h
      | some i =>
        rw [h1] at h
        cases h
        simp only [ev]
        exact T_var (by rw [ok.N]; exact findIx_ok h1) (by rw [ok.scope]; exact visB_ok hv) n1 n2
    · split at h
      · rename_i hg
        cases h1 : gkOf tc x with
        | none => rw [h1] at h; cases h
        | some g =>
          rw [h1] at h
          cases g <;> first | (simp only at h; cases h; done) | skip
          rename_i d
          cases h
          obtain ⟨u, v, q1, q2, q3⟩ := ok.con x d h1
          simp only [ev]
          exact T_const (pe_glob (glB_ok (by rw [ok.scope]; exact hg)) q1 q2 n1) q3
      · cases h
  · cases h
theorem tn_ok (ok : Ok P k tc X sc fnc) : ∀ n, (∀ {e : Expr} {t : Tn}, trTn tc sc fnc n e = some t → PG X e (TGt X.K t)) ∧ ∀ {es : List Expr} {ts : List Tn}, trTns tc sc fnc n es = some ts → PGs X es (TGts X.K ts) ∧ es.length = ts.length ∧ ∀ e ∈ es, ∀ a b, e ≠ Expr.Starred a b
  | 0 => ⟨fun h => (by simp only [trTn] at h; cases h), fun h => (by simp only [trTns] at h; cases h)⟩
  | n + 1 => by
    obtain ⟨i1, i2⟩ := tn_ok ok n
    refine ⟨fun {e t} h => ?_, fun {es ts} h => ?_⟩
    · cases e <;> first | (simp only [trTn] at h; cases h; done) | skip
      · rename_i x pos
        simp only [trTn] at h
        split at h
        · rename_i hk
          cases h1 : findIx tc.N x with
          | none => rw [h1] at h; cases h
          | some i =>
            rw [h1] at h
            cases h
            have hk' : X.env.scope.names.lookup x = some .local := by rw [ok.scope]; exact hk
            exact TG_name (by rw [ok.N]; exact ok.nd) (by rw [ok.N]; exact findIx_ok h1) (.inl hk') (.inr hk')
        · rename_i hk
          split at h
          · rename_i hf
            cases h1 : findIx tc.N x with
            | none => rw [h1] at h; cases h
            | some i =>
              rw [h1] at h
              cases h
              exact TG_name (by rw [ok.N]; exact ok.nd) (by rw [ok.N]; exact findIx_ok h1) (.inr (by rw [ok.scope]; exact hk)) (.inl (ok.fn x hf))
          · cases h
        · cases h
      · rename_i es kk pos
        simp only [trTn] at h
        cases h1 : trTns tc sc fnc n es with
        | none => rw [h1] at h; cases h
        | some ts =>
          rw [h1] at h
          cases h
          obtain ⟨q1, q2, q3⟩ := i2 h1
          exact TG_tup ok.calm q1 q2 q3
    · cases es with
      | nil =>
        simp only [trTns] at h
        cases h
        exact ⟨TGs_nil, rfl, fun e he => by cases he⟩
      | cons e r =>
        simp only [trTns] at h
        split at h
        · cases h
        · rename_i hs
          have hs' : isStar e = false := by simpa using hs
          cases h1 : trTn tc sc fnc n e with
          | none => simp only [h1] at h; cases h
          | some a =>
            cases h2 : trTns tc sc fnc n r with
            | none => simp only [h1, h2] at h; cases h
            | some b =>
              simp only [h1, h2] at h
              cases h
              obtain ⟨q1, q2, q3⟩ := i2 h2
              refine ⟨TGs_cons (i1 h1) q1 (star_not hs'), by simp [q2], fun e' he => ?_⟩
              rcases List.mem_cons.mp he with rfl | he
              · exact star_not hs'
              · exact q3 e' he
theorem src_ok (ok : Ok P k tc X sc fnc) {cl : Nat → ON} {f : Expr → Option E} (ih : ∀ e m, f e = some m → PE X e (T X.K (ev cl m))) {tg iter : Expr} {s : Sr} {l : Es} (h : trSrc tc sc f tg iter = some (s, l)) : PI X tg iter (TIt X.K (srcD s (evs cl l))) := by
  have seq : (trEs f [iter]).map (fun l => (Sr.seq, l)) = some (s, l) → PI X tg iter (TIt X.K (srcD s (evs cl l))) := fun h => by
    cases h1 : f iter with
    | none =>
      simp only [trEs, h1] at h
      split at h <;> cases h
    | some a =>
      simp only [trEs, h1] at h
      split at h
      · cases h
      · cases h
        simp only [srcD, evs, hd_cons]
        exact pi_seq (ih iter a h1)
  unfold trSrc at h
  split at h
  · rename_i x p args pos
    have gl : ∀ y : Str, glB sc y = true → Gl X y := fun y hy => glB_ok (by rw [ok.scope]; exact hy)
    split at h
    · rename_i c
      obtain ⟨c1, c2, rfl⟩ := c
      split at h
      · rename_i a
        cases h1 : trEs f [a] with
        | none => rw [h1] at h; cases h
        | some l1 =>
          rw [h1] at h
          cases h
          obtain ⟨q1, q2, q3⟩ := es_ok ih h1
          exact pi_rng1 (gl _ c1) (ok.blt _ (by decide) c2) q1 (q3 a List.mem_cons_self) q2
      · rename_i a b
        cases h1 : trEs f [a, b] with
        | none => rw [h1] at h; cases h
        | some l1 =>
          rw [h1] at h
          cases h
          obtain ⟨q1, q2, q3⟩ := es_ok ih h1
          exact pi_rng2 (gl _ c1) (ok.blt _ (by decide) c2) q1 (q3 a List.mem_cons_self) (q3 b (by simp)) q2
      · rename_i a b c
        cases h1 : trEs f [a, b, c] with
        | none => rw [h1] at h; cases h
        | some l1 =>
          rw [h1] at h
          cases h
          obtain ⟨q1, q2, q3⟩ := es_ok ih h1
          exact pi_rng3 (gl _ c1) (ok.blt _ (by decide) c2) q1 (q3 a List.mem_cons_self) (q3 b (by simp)) (q3 c (by simp))
      · cases h
    · split at h
      · rename_i c
        obtain ⟨c1, c2, rfl, c3⟩ := c
        obtain ⟨es', kk, tp, rfl⟩ : ∃ es' kk tp, tg = Expr.Tuple es' kk tp := by
          cases tg <;> first | exact ⟨_, _, _, rfl⟩ | cases c3
        split at h
        · rename_i a b
          cases h1 : trEs f [a, b] with
          | none => rw [h1] at h; cases h
          | some l1 =>
            rw [h1] at h
            cases h
            obtain ⟨q1, q2, q3⟩ := es_ok ih h1
            exact pi_zipD2 (gl _ c1) (ok.blt _ (by decide) c2) q1 (q3 a List.mem_cons_self) (q3 b (by simp)) q2
        · rename_i a b c
          cases h1 : trEs f [a, b, c] with
          | none => rw [h1] at h; cases h
          | some l1 =>
            rw [h1] at h
            cases h
            obtain ⟨q1, q2, q3⟩ := es_ok ih h1
            exact pi_zipD3 (gl _ c1) (ok.blt _ (by decide) c2) q1 (q3 a List.mem_cons_self) (q3 b (by simp)) (q3 c (by simp)) q2
        · cases h
      · split at h
        · rename_i c
          obtain ⟨c1, c2, rfl, c3⟩ := c
          obtain ⟨es', kk, tp, rfl⟩ : ∃ es' kk tp, tg = Expr.Tuple es' kk tp := by
            cases tg <;> first | exact ⟨_, _, _, rfl⟩ | cases c3
          split at h
          · rename_i a
            cases h1 : trEs f [a] with
            | none => rw [h1] at h; cases h
            | some l1 =>
              rw [h1] at h
              cases h
              obtain ⟨q1, q2, q3⟩ := es_ok ih h1
              exact pi_enumD (gl _ c1) (ok.blt _ (by decide) c2) q1 (q3 a List.mem_cons_self) ok.calm
          · cases h
        · split at h
          · rename_i c
            obtain ⟨c1, c2, rfl⟩ := c
            split at h
            · rename_i e
              have rev : (trEs f [e]).map (fun l => (Sr.rev, l)) = some (s, l) → PI X tg (.Call (.Name "reversed" p) [e] [] pos) (TIt X.K (srcD s (evs cl l))) := fun h => by
                cases h1 : f e with
                | none =>
                  simp only [trEs, h1] at h
                  split at h <;> cases h
                | some a =>
                  simp only [trEs, h1] at h
                  split at h
                  · cases h
                  · rename_i hst
                    cases h
                    simp only [srcD, evs, hd_cons]
                    exact pi_revD (gl _ c1) (ok.blt _ (by decide) c2) (ih e a h1) (star_not (by simpa using hst))
              split at h
              · rename_i y a e1
                split at h
                · rename_i c3
                  obtain ⟨c4, c5, rfl⟩ := c3
                  obtain ⟨p2, pos2, rfl⟩ : ∃ p2 pos2, e = .Call (.Name "range" p2) [a] [] pos2 := by
                    unfold oneArg at e1
                    split at e1
                    · cases e1
                      exact ⟨_, _, rfl⟩
                    · cases e1
                  cases h1 : f a with
                  | none =>
                    simp only [trEs, h1] at h
                    split at h <;> cases h
                  | some m =>
                    simp only [trEs, h1] at h
                    split at h
                    · cases h
                    · rename_i hst
                      cases h
                      simp only [srcD, evs]
                      refine pi_revRng (gl _ c1) (ok.blt _ (by decide) c2) (gl _ c4) (ok.blt _ (by decide) c5) (ih a m h1) (star_not (by simpa using hst)) fun env S ds S' hh => ?_
                      unfold fCons fNil at hh
                      cases h2 : ev cl m env S with
                      | none => rw [h2] at hh; cases hh
                      | some p =>
                        obtain ⟨d, S2⟩ := p
                        rw [h2] at hh
                        cases hh
                        exact ⟨d, rfl, rfl⟩
                · exact rev h
              · exact rev h
            · cases h
          · exact seq h
  · exact seq h
/-- the context of a block is as right -/
theorem Ok.blk (ok : Ok P k tc X sc fnc) {scope : Scope} (hk : scope.kind = .function) (s : Shared) (H : Hp) (C : Addr) (cl : List (Str × Addr)) (fp : List Addr) :
    Ok P k tc (X.blk s H scope (compEnvC scope cl C X.env) fp) (relS scope sc) (fun x => scope.names.lookup x == some NameKind.cell) :=
  ⟨by rw [← ok.scope]; rfl, hk, ok.N, ok.nd, ok.calm, ok.guards, ok.room, fun x h => h, ok.con, ok.fns, ok.blt⟩
end
end MP
namespace MP
open PySem L2 PySem.Spec PyProof.Rows
section
variable {P : List Fn} {k : Nat} {tc : Tc} {X : Cx} {sc : Scope} {fnc : Str → Bool}
/-- an expression whose test is plain -/
theorem both {e : Expr} {f : FE} (h : PE X e (T X.K f)) (he : ∀ whole, isTrue e X.env whole = (do let v ← whole; standAt e.pos; holding [v] (truthy v))) : PE X e (T X.K f) ∧ PT X e (TB X.K (fB f)) := ⟨h, T_val h he⟩
theorem bn_ok (ok : Ok P k tc X sc fnc) {x : Str} {b : Bn} {p pos : Pos} {e : Expr} {es : List Expr} {fa : FA} (h : trBlt x = some b) (hg : Gl X x) (hm : gkOf tc x = none) (ha : PA X (e :: es) (TA' X.K fa)) (hst : ∀ z ∈ e :: es, ∀ a b, z ≠ Expr.Starred a b) :
    PE X (.Call (.Name x p) (e :: es) [] pos) (T X.K (fN b.den fa)) := by
  have hu := ok.units
  unfold trBlt at h
  by_cases h1 : x = "int"
  · subst h1; rw [if_pos rfl] at h; cases h
    exact T_ty cb_int hg (ok.blt _ (by decide) hm) (by decide +kernel) ha (by decide) (by decide) hst
  rw [if_neg h1] at h
  by_cases h1 : x = "abs"
  · subst h1; rw [if_pos rfl] at h; cases h
    exact T_blt cb_abs hg (ok.blt _ (by decide) hm) (by decide +kernel) ha (by decide) (by decide) hst
  rw [if_neg h1] at h
  by_cases h1 : x = "len"
  · subst h1; rw [if_pos rfl] at h; cases h
    exact T_blt cb_len hg (ok.blt _ (by decide) hm) (by decide +kernel) ha (by decide) (by decide) hst
  rw [if_neg h1] at h
  by_cases h1 : x = "divmod"
  · subst h1; rw [if_pos rfl] at h; cases h
    exact T_blt cb_divmod hg (ok.blt _ (by decide) hm) (by decide +kernel) ha (by decide) (by decide) hst
  rw [if_neg h1] at h
  by_cases h1 : x = "max"
  · subst h1; rw [if_pos rfl] at h; cases h
    exact T_blt (cb_max ok.calm) hg (ok.blt _ (by decide) hm) (by decide +kernel) ha (by decide) (by decide) hst
  rw [if_neg h1] at h
  by_cases h1 : x = "min"
  · subst h1; rw [if_pos rfl] at h; cases h
    exact T_blt (cb_min ok.calm) hg (ok.blt _ (by decide) hm) (by decide +kernel) ha (by decide) (by decide) hst
  rw [if_neg h1] at h
  by_cases h1 : x = "sum"
  · subst h1; rw [if_pos rfl] at h; cases h
    exact T_blt (cb_sum ok.calm) hg (ok.blt _ (by decide) hm) (by decide +kernel) ha (by decide) (by decide) hst
  rw [if_neg h1] at h
  by_cases h1 : x = "all"
  · subst h1; rw [if_pos rfl] at h; cases h
    exact T_blt (cb_all ok.calm) hg (ok.blt _ (by decide) hm) (by decide +kernel) ha (by decide) (by decide) hst
  rw [if_neg h1] at h
  by_cases h1 : x = "any"
  · subst h1; rw [if_pos rfl] at h; cases h
    exact T_blt (cb_any ok.calm) hg (ok.blt _ (by decide) hm) (by decide +kernel) ha (by decide) (by decide) hst
  rw [if_neg h1] at h
  by_cases h1 : x = "list"
  · subst h1; rw [if_pos rfl] at h; cases h
    exact T_ty cb_list hg (ok.blt _ (by decide) hm) (by decide +kernel) ha (by decide) (by decide) hst
  rw [if_neg h1] at h
  by_cases h1 : x = "tuple"
  · subst h1; rw [if_pos rfl] at h; cases h
    exact T_ty cb_tuple hg (ok.blt _ (by decide) hm) (by decide +kernel) ha (by decide) (by decide) hst
  rw [if_neg h1] at h
  by_cases h1 : x = "repr"
  · subst h1; rw [if_pos rfl] at h; cases h
    exact T_blt (cb_repr ok.guards hu) hg (ok.blt _ (by decide) hm) (by decide +kernel) ha (by decide) (by decide) hst
  rw [if_neg h1] at h
  by_cases h1 : x = "str"
  · subst h1; rw [if_pos rfl] at h; cases h
    exact T_ty cb_str hg (ok.blt _ (by decide) hm) (by decide +kernel) ha (by decide) (by decide) hst
  rw [if_neg h1] at h
  cases h
theorem ty_ok {x : Str} {t : Ty} (h : trTy x = some t) : x = Str.ofString t.nm ∧ x ∈ bltNames ∧ bootBuiltins x = some (.type t.nm) := by
  unfold trTy at h
  by_cases h1 : x = "int"
  · subst h1; rw [if_pos rfl] at h; cases h
    exact ⟨rfl, by decide, by decide +kernel⟩
  rw [if_neg h1] at h
  by_cases h1 : x = "bool"
  · subst h1; rw [if_pos rfl] at h; cases h
    exact ⟨rfl, by decide, by decide +kernel⟩
  rw [if_neg h1] at h
  by_cases h1 : x = "str"
  · subst h1; rw [if_pos rfl] at h; cases h
    exact ⟨rfl, by decide, by decide +kernel⟩
  rw [if_neg h1] at h
  by_cases h1 : x = "tuple"
  · subst h1; rw [if_pos rfl] at h; cases h
    exact ⟨rfl, by decide, by decide +kernel⟩
  rw [if_neg h1] at h
  by_cases h1 : x = "list"
  · subst h1; rw [if_pos rfl] at h; cases h
    exact ⟨rfl, by decide, by decide +kernel⟩
  rw [if_neg h1] at h
  by_cases h1 : x = "dict"
  · subst h1; rw [if_pos rfl] at h; cases h
    exact ⟨rfl, by decide, by decide +kernel⟩
  rw [if_neg h1] at h
  cases h
theorem mt_ok {m : Str} {m' : Mt} {o a : Expr} {fo fa : FE} {apos cpos : Pos} (h : trMt m = some m') (ho : PE X o (T X.K fo)) (ha : PE X a (T X.K fa)) (hl : (apos.endLine == cpos.line) = true) (hs : isStar a = false) (hb : attributeBase o m X.env (eval o X.env) = eval o X.env) :
    PE X (.Call (.Attribute o m apos) [a] [] cpos) (T X.K (fM m'.den fo fa)) := by
  unfold trMt at h
  by_cases h1 : m = "append"
  · subst h1; rw [if_pos rfl] at h; cases h
    exact T_meth PySem.F.slot_list_append PySem.F.type_list_append mt_append (fun x y H Q q => app_r q) ho ha hl hb (star_not hs)
  rw [if_neg h1] at h
  by_cases h1 : m = "extend"
  · subst h1; rw [if_pos rfl] at h; cases h
    exact T_meth PySem.F.slot_list_extend PySem.F.type_list_extend mt_extend (fun x y H Q q => ext_r q) ho ha hl hb (star_not hs)
  rw [if_neg h1] at h
  cases h
/-- a receiver that is no call has nothing ahead -/
theorem recv_ok {n : Nat} {o : Expr} {m : Str} {m' : Mt} {e : E} (h : trE tc n sc fnc o = some e) (hm : trMt m = some m') (hk : isCall0 o = false) : attributeBase o m X.env (eval o X.env) = eval o X.env := by
  cases o <;> first | rfl | skip
  rename_i f as ks pos
  cases f <;> first | rfl | skip
  cases as <;> cases ks <;> first | rfl | cases hk
theorem recv_any {o : Expr} {m : Str} (hk : isCall0 o = false) : attributeBase o m X.env (eval o X.env) = eval o X.env := by
  cases o <;> first | rfl | skip
  rename_i f as ks pos
  cases f <;> first | rfl | skip
  cases as <;> cases ks <;> first | rfl | cases hk
end
end MP
namespace MP
open PySem L2 PySem.Spec PyProof.Rows
theorem T_dict0 {X : Cx} {pos : Pos} : PE X (.Dict [] [] pos) (T X.K fDict0) := PE.to (pe_dnewK (X := X)) fun σ H Q ⟨β, env, S, d, S', r, er, e, q⟩ => by
  cases e
  intro p hp
  exact q _ _ _ Le.app (sqt_upd (.inl hp)) (r.new hp upd_same) (.ref (by rw [← r.len]; simp))
/-- EXPRESSIONS -/
theorem ex_ok {P : List Fn} {k : Nat} {tc : Tc} : ∀ (n : Nat) {X : Cx} {sc : Scope} {fnc : Str → Bool}, Ok P k tc X sc fnc → ∀ (e : Expr) (m : E), trE tc n sc fnc e = some m →
    PE X e (T X.K (ev (callF P k) m)) ∧ PT X e (TB X.K (fB (ev (callF P k) m)))
  | 0, _, _, _, _, _, _, h => by simp only [trE] at h; cases h
  | n + 1, X, sc, fnc, ok, e, m, h => by
    have ih : ∀ (e : Expr) (m : E), trE tc n sc fnc e = some m → PE X e (T X.K (ev (callF P k) m)) ∧ PT X e (TB X.K (fB (ev (callF P k) m))) := fun e m h => ex_ok n ok e m h
    have ihE := fun e m h => (ih e m h).1
    cases e with
    | Constant c kk pos =>
      cases c <;> first | (simp only [trE] at h; cases h; done) | skip
      all_goals (simp only [trE] at h; cases h; simp only [ev])
      · exact both (T_const pe_non fun _ _ => .non) fun _ => rfl
      · exact both (T_const pe_bl fun _ _ => .bl _) fun _ => rfl
      · exact both (T_const pe_int fun _ _ => .int _) fun _ => rfl
      · exact both (T_const pe_str fun _ _ => .str _) fun _ => rfl
    | Name x pos =>
      simp only [trE] at h
      exact both (name_ok ok h) fun _ => rfl
    | BinOp a o b pos =>
      simp only [trE] at h
      cases h1 : trBop o with
      | none => simp only [h1] at h; cases h
      | some o' =>
        cases h2 : trE tc n sc fnc a with
        | none => simp only [h1, h2] at h; cases h
        | some a' =>
          cases h3 : trE tc n sc fnc b with
          | none => simp only [h1, h2, h3] at h; cases h
          | some b' =>
            simp only [h1, h2, h3] at h
            cases h
            simp only [ev]
            exact both (T_bin (bop_ok h1) (ihE _ _ h2) (ihE _ _ h3)) fun _ => rfl
    | UnaryOp o a pos =>
      cases o <;> first | (simp only [trE] at h; cases h; done) | skip
      · simp only [trE] at h
        cases h2 : trE tc n sc fnc a with
        | none => rw [h2] at h; cases h
        | some a' =>
          rw [h2] at h
          cases h
          simp only [ev]
          exact ⟨T_not (ih _ _ h2).1, T_notT (ih _ _ h2).2⟩
      · simp only [trE] at h
        cases h2 : trE tc n sc fnc a with
        | none => rw [h2] at h; cases h
        | some a' =>
          rw [h2] at h
          cases h
          simp only [ev]
          exact both (T_neg (ih _ _ h2).1) fun _ => rfl
    | BoolOp o l pos =>
      cases o
      · simp only [trE] at h
        obtain ⟨q1, q2⟩ := and_ok (pos := pos) ih h
        exact ⟨q1, q2.pt⟩
      · simp only [trE] at h
        obtain ⟨q1, q2⟩ := or_ok (pos := pos) ih h
        exact ⟨q1, q2.pt⟩
    | IfExp c a b pos =>
      simp only [trE] at h
      cases h1 : trE tc n sc fnc c with
      | none => simp only [h1] at h; cases h
      | some c' =>
        cases h2 : trE tc n sc fnc a with
        | none => simp only [h1, h2] at h; cases h
        | some a' =>
          cases h3 : trE tc n sc fnc b with
          | none => simp only [h1, h2, h3] at h; cases h
          | some b' =>
            simp only [h1, h2, h3] at h
            cases h
            simp only [ev]
            exact ⟨T_ite (ih _ _ h1).2 (ih _ _ h2).1 (ih _ _ h3).1, T_iteT (ih _ _ h1).2 (ih _ _ h2).2 (ih _ _ h3).2⟩
    | Compare a os bs pos =>
      match os, bs, h with
      | [o], [b], h =>
        simp only [trE] at h
        cases h1 : trCop o with
        | none => simp only [h1] at h; cases h
        | some o' =>
          cases h2 : trE tc n sc fnc a with
          | none => simp only [h1, h2] at h; cases h
          | some a' =>
            cases h3 : trE tc n sc fnc b with
            | none => simp only [h1, h2, h3] at h; cases h
            | some b' =>
              simp only [h1, h2, h3] at h
              cases h
              simp only [ev]
              exact ⟨T_cmp (cop_ok ok.units h1) (ihE _ _ h2) (ihE _ _ h3) (marks_no (tr_notSet h3) o), T_cmpT (cop_ok ok.units h1) (ihE _ _ h2) (ihE _ _ h3) (marks_no (tr_notSet h3) o)⟩
      | [o, o2], [b, c], h =>
        simp only [trE] at h
        cases h1 : trCop o with
        | none => simp only [h1] at h; cases h
        | some o' =>
          cases h12 : trCop o2 with
          | none => simp only [h1, h12] at h; cases h
          | some o2' =>
            cases h2 : trE tc n sc fnc a with
            | none => simp only [h1, h12, h2] at h; cases h
            | some a' =>
              cases h3 : trE tc n sc fnc b with
              | none => simp only [h1, h12, h2, h3] at h; cases h
              | some b' =>
                cases h4 : trE tc n sc fnc c with
                | none => simp only [h1, h12, h2, h3, h4] at h; cases h
                | some c' =>
                  simp only [h1, h12, h2, h3, h4] at h
                  cases h
                  simp only [ev]
                  have hm : lastMarks [o, o2] [b, c] = false := marks_no (tr_notSet h4) o2
                  exact ⟨T_chain (cop_ok ok.units h1) (cop_ok ok.units h12) (ihE _ _ h2) (ihE _ _ h3) (ihE _ _ h4) hm, T_chainT (cop_ok ok.units h1) (cop_ok ok.units h12) (ihE _ _ h2) (ihE _ _ h3) (ihE _ _ h4) hm⟩
      | [], _, h => simp only [trE] at h; cases h
      | _ :: _ :: _ :: _, _, h => simp only [trE] at h; cases h
      | [_], [], h => simp only [trE] at h; cases h
      | [_], _ :: _ :: _, h => simp only [trE] at h; cases h
      | [_, _], [], h => simp only [trE] at h; cases h
      | [_, _], [_], h => simp only [trE] at h; cases h
      | [_, _], _ :: _ :: _ :: _, h => simp only [trE] at h; cases h
    | Tuple es kk pos =>
      simp only [trE] at h
      cases h1 : trEs (trE tc n sc fnc) es with
      | none => rw [h1] at h; cases h
      | some l =>
        rw [h1] at h
        cases h
        simp only [ev]
        exact both (T_tup (es_ok ihE h1).1) fun _ => rfl
    | List es pos =>
      simp only [trE] at h
      cases h1 : trEs (trE tc n sc fnc) es with
      | none => rw [h1] at h; cases h
      | some l =>
        rw [h1] at h
        cases h
        simp only [ev]
        exact both (T_lst (es_ok ihE h1).1) fun _ => rfl
    | Dict ks vs pos =>
      match ks, vs, h with
      | [], [], h =>
        simp only [trE] at h
        cases h
        simp only [ev]
        exact both T_dict0 fun _ => rfl
      | _ :: _, _, h => simp only [trE] at h; cases h
      | [], _ :: _, h => simp only [trE] at h; cases h
    | Subscript a b pos =>
      simp only [trE] at h
      cases hs : sliceOf b with
      | some lh =>
        obtain ⟨lo, hi⟩ := lh
        obtain ⟨p, rfl⟩ : ∃ p, b = Expr.Slice lo hi none p := by
          cases b <;> first | (cases hs; done) | skip
          rename_i l u st p
          cases st with
          | none =>
            cases hs
            exact ⟨p, rfl⟩
          | some _ => cases hs
        simp only [hs] at h
        cases h1 : trE tc n sc fnc a with
        | none => simp only [h1] at h; cases h
        | some a' =>
          cases h2 : trOp (trE tc n sc fnc) lo with
          | none => simp only [h1, h2] at h; cases h
          | some lo' =>
            cases h3 : trOp (trE tc n sc fnc) hi with
            | none => simp only [h1, h2, h3] at h; cases h
            | some hi' =>
              simp only [h1, h2, h3] at h
              cases h
              simp only [ev]
              have part : ∀ {o : Option Expr} {l : Es}, trOp (trE tc n sc fnc) o = some l → PO X o (TO' X.K (partA (evs (callF P k) l))) := fun {o l} h => by
                cases o with
                | none =>
                  cases h
                  simp only [evs, part_nil]
                  exact T_noPart
                | some e =>
                  simp only [trOp] at h
                  cases h4 : trE tc n sc fnc e with
                  | none => rw [h4] at h; cases h
                  | some e' =>
                    rw [h4] at h
                    cases h
                    simp only [evs, part_cons]
                    exact T_part (ihE _ _ h4)
              exact both (T_sl (ihE _ _ h1) (part h2) (part h3)) fun _ => rfl
      | none =>
        simp only [hs] at h
        split at h
        · cases h
        · rename_i hsl
          cases h1 : trE tc n sc fnc a with
          | none => simp only [h1] at h; cases h
          | some a' =>
            cases h2 : trE tc n sc fnc b with
            | none => simp only [h1, h2] at h; cases h
            | some b' =>
              simp only [h1, h2] at h
              cases h
              simp only [ev]
              exact both (T_idx (ihE _ _ h1) (ihE _ _ h2) (plain_ix (by simpa using hsl))) fun _ => rfl
    | ListComp elt gs scope pos =>
      match gs, h with
      | [⟨tg, iter, ifs, asy⟩], h =>
        simp only [trE] at h
        split at h
        · rename_i c
          obtain ⟨c1, c2⟩ := c
          subst c1
          cases h1 : trSrc tc sc (trE tc n sc fnc) tg iter with
          | none => simp only [h1] at h; cases h
          | some sl =>
            obtain ⟨s, l⟩ := sl
            cases h2 : trTn tc (relS scope sc) (fun x => scope.names.lookup x == some NameKind.cell) n tg with
            | none => simp only [h1, h2] at h; cases h
            | some t =>
              cases h3 : trE tc n (relS scope sc) (fun x => scope.names.lookup x == some NameKind.cell) elt with
              | none => simp only [h1, h2, h3] at h; cases h
              | some e' =>
                cases h4 : trIfs (trE tc n (relS scope sc) (fun x => scope.names.lookup x == some NameKind.cell)) ifs with
                | none => simp only [h1, h2, h3, h4] at h; cases h
                | some c' =>
                  simp only [h1, h2, h3, h4] at h
                  split at h
                  · rename_i hx
                    cases h
                    simp only [ev]
                    have bk : BlkOk X.N X.env.scope scope (ownOf tc.N scope) := blkOk_by (by rw [ok.N, ok.scope]; exact c2)
                    refine both (T_lc ok.calm (by rw [ok.N]; exact ok.nd) (src_ok ok ihE h1) bk (fun s H C cl fp => (tn_ok (ok.blk bk.kind s H C cl fp) n).1 h2) (fun s H C cl fp => ?_) (fun s H C cl fp => (ex_ok n (ok.blk bk.kind s H C cl fp) _ _ h3).1) (fold_no ?_ _) fun j hj => ?_) fun _ => rfl
                    · have okb := ok.blk bk.kind s H C cl fp
                      match ifs, h4 with
                      | [], h4 =>
                        cases h4
                        simp only [ev]
                        exact PTs_nil
                      | [c0], h4 => exact PTs_one (ex_ok n okb _ _ h4).2
                    · intro es j p q
                      subst q
                      simp only [trSrc, trEs, isStar] at h1
                      cases h5 : trE tc n sc fnc (.Set es j p) with
                      | none => simp [h5] at h1
                      | some z => exact tr_notSet h5 _ _ _ rfl
                    · have := List.all_eq_true.mp hx j hj
                      simpa using this
                  · cases h
        · cases h
      | [], h => simp only [trE] at h; cases h
      | _ :: _ :: _, h => simp only [trE] at h; cases h
    | Call f args kws pos =>
      cases f <;> first | (simp only [trE] at h; cases h; done) | skip
      · -- a method
        rename_i o m apos
        match args, kws, h with
        | [a], [], h =>
          simp only [trE] at h
          split at h
          · rename_i c
            obtain ⟨c1, c2, c3⟩ := c
            split at h
            · rename_i cs
              cases h2 : trE tc n sc fnc o with
              | none => simp only [h2] at h; cases h
              | some o' =>
                cases h3 : trE tc n sc fnc a with
                | none => simp only [h2, h3] at h; cases h
                | some a' =>
                  simp only [h2, h3] at h
                  cases h
                  simp only [ev]
                  rw [cs]
                  exact both (T_split (ihE _ _ h2) (ihE _ _ h3) c2 (recv_any c3) (star_not c1)) fun _ => rfl
            · cases h1 : trMt m with
              | none => simp only [h1] at h; cases h
              | some m' =>
                cases h2 : trE tc n sc fnc o with
                | none => simp only [h1, h2] at h; cases h
                | some o' =>
                  cases h3 : trE tc n sc fnc a with
                  | none => simp only [h1, h2, h3] at h; cases h
                  | some a' =>
                    simp only [h1, h2, h3] at h
                    cases h
                    simp only [ev]
                    exact both (mt_ok h1 (ihE _ _ h2) (ihE _ _ h3) c2 c1 (recv_any c3)) fun _ => rfl
          · cases h
        | [], _, h => simp only [trE] at h; cases h
        | [_], _ :: _, h => simp only [trE] at h; cases h
        | _ :: _ :: _, _, h => simp only [trE] at h; cases h
      · -- a name
        rename_i x p
        refine both ?_ fun _ => rfl
        simp only [trE] at h
        split at h
        · rename_i c
          obtain ⟨c1, c2⟩ := c
          obtain ⟨n1, n2, n3⟩ := okName_ok c1
          have gl : ∀ y : Str, glB sc y = true → Gl X y := fun y hy => glB_ok (by rw [ok.scope]; exact hy)
          split at h
          · -- a def of the text
            rename_i i ps ks hgk
            obtain ⟨f, fd, g1, g2, g3, g4, g5⟩ := ok.fns x i ps ks hgk
            split at h
            · split at h
              · rename_i hlen
                cases h1 : trEs (trE tc n sc fnc) args with
                | none => rw [h1] at h; cases h
                | some l =>
                  rw [h1] at h
                  cases h
                  obtain ⟨q1, q2, q3⟩ := es_ok (cl := callF P k) ihE h1
                  simp only [ev]
                  by_cases he : args = []
                  · subst he
                    cases h1
                    have hps : ps = [] := by
                      cases ps with
                      | nil => rfl
                      | cons _ _ => cases hlen
                    subst hps
                    simp only [evs]
                    exact pe_callG0 g3 ok.guards ok.room (gl x c2) g1 g2 (fun s us hl => g4 s us hl) n1
                  · exact pe_callG g3 ok.guards ok.room (gl x c2) g1 g2 g4 he hlen.symm rfl q1 q2 q3 n1
              · cases h
            · split at h
              · rename_i hargs
                subst hargs
                cases h1 : ks.find? (fun p => p.1 == kws.filterMap (·.arg)) with
                | none => simp only [h1] at h; cases h
                | some pr =>
                  cases h2 : trKw (trE tc n sc fnc) kws with
                  | none => simp only [h1, h2] at h; cases h
                  | some l =>
                    simp only [h1, h2] at h
                    split at h
                    · rename_i hl
                      cases h
                      obtain ⟨q1, q2, q3⟩ := kw_ok (cl := callF P k) ihE h2
                      have hm := List.mem_of_find?_eq_some h1
                      have hp := List.find?_some h1
                      have hks : kws.filterMap (·.arg) = pr.1 := by
                        have : (pr.1 == kws.filterMap (·.arg)) = true := hp
                        exact (eq_of_beq this).symm
                      simp only [ev]
                      exact pe_callGK g3 ok.guards ok.room (gl x c2) g1 g2 (g5 pr hm) hl.1.symm q1 (fun env S ds S' h => by rw [q2 _ _ _ _ h, hl.2]) hks q3 n1
                    · cases h
              · cases h
          · cases h
          · -- a built-in
            rename_i hgk
            split at h
            · split at h
              · rename_i hx
                subst hx
                split at h
                · rename_i a y p2
                  split at h
                  · rename_i c3
                    obtain ⟨d1, d2, d3, d4⟩ := c3
                    obtain ⟨m1, m2, m3⟩ := okName_ok d1
                    cases h1 : trTy y with
                    | none => simp only [h1] at h; cases h
                    | some t =>
                      cases h2 : trE tc n sc fnc a with
                      | none => simp only [h1, h2] at h; cases h
                      | some a' =>
                        simp only [h1, h2] at h
                        cases h
                        obtain ⟨y1, y2, y3⟩ := ty_ok h1
                        simp only [ev, evs, Bn.den]
                        exact T_isi (ihE _ _ h2) y1 (gl _ c2) (ok.blt _ (by decide) hgk) (gl _ d2) (ok.blt _ y2 d3) y3 (by decide +kernel) (star_not d4) m3 m1
                  · cases h
                · cases h
              · split at h
                · rename_i a hsa
                  obtain ⟨e, p2, q2, rfl, rfl, rfl, d1, d2, d3⟩ : ∃ e p2 q2, args = [e] ∧ e = .Call (.Name "set" p2) [a] [] q2 ∧ x = "len" ∧ glB sc "set" = true ∧ gkOf tc "set" = none ∧ isStar a = false := by
                    unfold setArg at hsa
                    split at hsa
                    · rename_i e
                      split at hsa
                      · rename_i y a' e1
                        split at hsa
                        · rename_i c
                          obtain ⟨w1, w2, w3, w4, w5⟩ := c
                          cases hsa
                          subst w1 w2
                          unfold oneArg at e1
                          split at e1
                          · cases e1
                            exact ⟨_, _, _, rfl, rfl, rfl, w3, w4, w5⟩
                          · cases e1
                        · cases hsa
                      · cases hsa
                    · cases hsa
                  cases h1 : trE tc n sc fnc a with
                  | none => rw [h1] at h; cases h
                  | some m1 =>
                    rw [h1] at h
                    cases h
                    simp only [ev]
                    exact T_lenSet ok.calm (gl _ c2) (ok.blt _ (by decide) hgk) (gl _ d1) (ok.blt _ (by decide) d2) (ihE _ _ h1) (star_not d3)
                · split at h
                  · rename_i b a r hb _
                    cases h1 : trEs (trE tc n sc fnc) (a :: r) with
                    | none => rw [h1] at h; cases h
                    | some l =>
                      rw [h1] at h
                      cases h
                      obtain ⟨q1, q2, q3⟩ := es_ok (cl := callF P k) ihE h1
                      simp only [ev]
                      exact bn_ok ok hb (gl x c2) hgk q1 q3
                  · cases h
            · cases h
        · cases h
    | _ => simp only [trE] at h; cases h
end MP
namespace MP
open PySem L2 PySem.Spec PyProof.Rows
/-! ### statements of the text -/
def isComp : Expr → Bool
  | .ListComp _ _ _ _ => true
  | .SetComp _ _ _ _ => true
  | .DictComp _ _ _ _ _ => true
  | _ => false
def isText : Expr → Bool
  | .Constant (.str _) _ _ => true
  | _ => false
def locB (sc : Scope) (x : Str) : Bool := match sc.names.lookup x with
  | some .local => true
  | _ => false
theorem locB_ok {sc : Scope} {x : Str} (h : locB sc x = true) : sc.names.lookup x = some .local := by
  unfold locB at h
  split at h
  · assumption
  · cases h
theorem locB_no {sc : Scope} {x : Str} (h : locB sc x = false) : sc.names.lookup x ≠ some .local := by
  intro q
  unfold locB at h
  rw [q] at h
  cases h
def trPar (tc : Tc) (sc : Scope) (f : Expr → Option E) (ts vs : List Expr) : Option Sm := match ts, vs with
  | [.Name x px, .Name y py], [a, b] =>
    if isStar a = true ∨ isStar b = true then none else
    match trTns tc sc (fun _ => true) 9 [.Name x px, .Name y py], trEs f [a, b] with
    | some l, some es =>
      if locB sc x = true ∧ locB sc y = true then
        if px.line = py.line ∧ ¬ x = y then
          if (foldedForSure 8 a && foldedForSure 8 b) = true then some (.asg (.tu l) (.tup es))
          else if (constantsAlone 8 a && constantsAlone 8 b) = true then none
          else match findIx tc.N x, findIx tc.N y with
            | some i, some j => some (.asg (.tu [.nm i, .nm j]) (.tup es))
            | _, _ => none
        else none
      else some (.asg (.tu l) (.tup es))
    | _, _ => none
  | [.Name x px, .Name y py, .Name z pz], [a, b, c] =>
    if isStar a = true ∨ isStar b = true ∨ isStar c = true then none else
    match trEs f [a, b, c] with
    | some es =>
      if (locB sc x = true ∧ locB sc y = true ∧ locB sc z = true) ∧ (px.line = py.line ∧ px.line = pz.line) ∧ (¬ x = y ∧ ¬ x = z ∧ ¬ y = z) ∧ (foldedForSure 8 a && (foldedForSure 8 b && foldedForSure 8 c)) = false ∧ (constantsAlone 8 a && (constantsAlone 8 b && constantsAlone 8 c)) = false then
        match findIx tc.N x, findIx tc.N y, findIx tc.N z with
        | some i, some j, some l => some (.asg (.tu [.nm i, .nm j, .nm l]) (.tup es))
        | _, _, _ => none
      else none
    | none => none
  | _, _ => none
def trAsg (tc : Tc) (sc : Scope) (n : Nat) (tg e : Expr) : Option Sm := match tg with
  | .Name _ _ => match trTn tc sc (fun _ => true) n tg, trE tc n sc (fun _ => true) e with
    | some t, some e' => some (.asg t e')
    | _, _ => none
  | .Tuple ts _ _ => match e with
    | .Tuple vs _ _ => trPar tc sc (trE tc n sc (fun _ => true)) ts vs
    | _ => match ts with
      | [.Subscript o i _, .Name y py] => if isSlice i = true then none else match trE tc n sc (fun _ => true) o, trE tc n sc (fun _ => true) i, trTn tc sc (fun _ => true) n (.Name y py), trE tc n sc (fun _ => true) e with
        | some o', some i', some (.nm j), some e' => some (.subv o' i' j e')
        | _, _, _, _ => none
      | _ => match trTn tc sc (fun _ => true) n tg, trE tc n sc (fun _ => true) e with
        | some t, some e' => some (.asg t e')
        | _, _ => none
  | .Subscript o i _ => if isSlice i = true then none else match trE tc n sc (fun _ => true) o, trE tc n sc (fun _ => true) i, trE tc n sc (fun _ => true) e with
    | some o', some i', some e' => some (.sub o' i' e')
    | _, _, _ => none
  | _ => none
mutual
def trS (tc : Tc) : Nat → Scope → Stmt → Option Sm
  | 0, _, _ => none
  | n + 1, sc, st => match st with
    | .Pass _ => some .pass
    | .Break _ => some .brk
    | .Continue _ => some .cont
    | .Raise _ _ _ => some .never
    | .Return none _ => some (.ret (.c .non))
    | .Return (some e) _ => (trE tc n sc (fun _ => true) e).map .ret
    | .Expr e _ => if isText e = true then some .pass else if isComp e = true then none else (trE tc n sc (fun _ => true) e).map .ex
    | .If c a b _ => match trE tc n sc (fun _ => true) c, trSs tc n sc a, trSs tc n sc b with
      | some c', some a', some b' => some (.cond c' a' b')
      | _, _, _ => none
    | .For tg iter body [] _ => match trSrc tc sc (trE tc n sc (fun _ => true)) tg iter, trTn tc sc (fun _ => true) n tg, trSs tc n sc body with
      | some (s, l), some t, some b => some (.loop s l t b)
      | _, _, _ => none
    | .While c body [] _ => match trE tc n sc (fun _ => true) c, trSs tc n sc body with
      | some c', some b' => some (.wh c' b')
      | _, _ => none
    | .Assign [tg] e _ => trAsg tc sc n tg e
    | _ => none
def trSs (tc : Tc) : Nat → Scope → List Stmt → Option Ss
  | 0, _, _ => none
  | _ + 1, _, [] => some .nil
  | n + 1, sc, s :: r => match trS tc n sc s, trSs tc n sc r with
    | some a, some b => some (.cons a b)
    | _, _ => none
end
section
variable {P : List Fn} {k : Nat} {tc : Tc} {X : Cx} {sc : Scope}
theorem sw_tuple {e : Expr} {ts : List Expr} {kk : Nat} {p : Pos} {l : Nat} {env : PySem.Env} : swapsWithSole [.Tuple ts kk p] e l env = pure false := by cases e <;> rfl
theorem sw_sub {e o i : Expr} {p : Pos} {l : Nat} {env : PySem.Env} : swapsWithSole [.Subscript o i p] e l env = pure false := by cases e <;> rfl
theorem sw_plain {e t : Expr} {l : Nat} {env : PySem.Env} (h : isComp e = false) : swapsWith e (some t) l env = pure false := by cases e <;> first | rfl | cases h
theorem sw_drop {e : Expr} {l : Nat} {env : PySem.Env} (h : isComp e = false) : swapsWith e none l env = pure false := by cases e <;> first | rfl | cases h
theorem ss_name {e : Expr} {x : Str} {p : Pos} {env : PySem.Env} : swappedStores [.Name x p] e env = pure none := by cases e <;> rfl
theorem ss_sub {e o i : Expr} {p : Pos} {env : PySem.Env} : swappedStores [.Subscript o i p] e env = pure none := by cases e <;> rfl
theorem ss_tup {e : Expr} {ts : List Expr} {kk : Nat} {p : Pos} {env : PySem.Env} (h : isTup e = false) : swappedStores [.Tuple ts kk p] e env = pure none := by cases e <;> first | rfl | cases h
theorem par_ok (ok : Ok P k tc X sc (fun _ => true)) {f : Expr → Option E} (ih : ∀ e m, f e = some m → PE X e (T X.K (ev (callF P k) m))) {ts vs : List Expr} {kk k2 : Nat} {p p2 pos : Pos} {m : Sm} (h : trPar tc sc f ts vs = some m) :
    PS X (.Assign [.Tuple ts kk p] (.Tuple vs k2 p2) pos) (TSt X.K (sm (callF P k) m)) := by
  have fk : X.env.scope.kind = .function := by rw [ok.scope]; exact ok.fk
  have hN : X.N.Nodup := by rw [ok.N]; exact ok.nd
  have lk : ∀ {x : Str}, locB sc x = true → X.env.scope.names.lookup x = some .local := fun h => by rw [ok.scope]; exact locB_ok h
  have at_ : ∀ {x : Str} {i : Nat}, findIx tc.N x = some i → X.N[i]? = some x := fun h => by rw [ok.N]; exact findIx_ok h
  have apart : ∀ {x y : Str} {i j : Nat}, findIx tc.N x = some i → findIx tc.N y = some j → ¬ x = y → i ≠ j := fun h1 h2 hne e => by
    subst e
    have := (findIx_ok h1).symm.trans (findIx_ok h2)
    exact hne (Option.some.inj this)
  unfold trPar at h
  split at h
  · rename_i x px y py a b
    split at h
    · cases h
    · rename_i hst
      have sa : isStar a = false := by
        cases q : isStar a with
        | false => rfl
        | true => exact absurd (.inl q) hst
      have sb : isStar b = false := by
        cases q : isStar b with
        | false => rfl
        | true => exact absurd (.inr q) hst
      cases h1 : trTns tc sc (fun _ => true) 9 [.Name x px, .Name y py] with
      | none => simp only [h1] at h; cases h
      | some l =>
        cases h2 : trEs f [a, b] with
        | none => simp only [h1, h2] at h; cases h
        | some es =>
          simp only [h1, h2] at h
          obtain ⟨q1, q2, q3⟩ := es_ok (cl := callF P k) ih h2
          obtain ⟨g1, g2, g3⟩ := (tn_ok ok 9).2 h1
          have plain : swappedStores [.Tuple [.Name x px, .Name y py] kk p] (.Tuple [a, b] k2 p2) X.env = pure none → PS X (.Assign [.Tuple [.Name x px, .Name y py] kk p] (.Tuple [a, b] k2 p2) pos) (TSt X.K (sm (callF P k) (.asg (.tu l) (.tup es)))) := fun hw => by
            simp only [sm, ev]
            exact S_asg (T_tup q1) (TG_tup ok.calm g1 g2 g3) sw_tuple hw (fun _ _ q => nomatch q)
          split at h
          · rename_i c
            split at h
            · rename_i c2
              split at h
              · rename_i c3
                cases h
                exact plain (sw2n fk (star_not sa) (star_not sb) c2.1 (lk c.1) (lk c.2) c2.2 c3)
              · rename_i c3
                split at h
                · cases h
                · rename_i c4
                  cases h3 : findIx tc.N x with
                  | none => simp only [h3] at h; cases h
                  | some i =>
                    cases h4 : findIx tc.N y with
                    | none => simp only [h3, h4] at h; cases h
                    | some j =>
                      simp only [h3, h4] at h
                      cases h
                      simp only [sm, ev]
                      exact S_par2 ok.calm hN (at_ h3) (at_ h4) (apart h3 h4 c2.2) (lk c.1) (lk c.2) q1 q2 (sw2 fk (star_not sa) (star_not sb) c2.1 (lk c.1) (lk c.2) c2.2 (by simpa using c3) (by simpa using c4))
            · cases h
          · rename_i c
            cases h
            refine plain (sw2c fk ?_)
            by_cases hx : locB sc x = true
            · exact .inr (by
                have hy : locB sc y = false := by
                  cases q : locB sc y with
                  | false => rfl
                  | true => exact absurd ⟨hx, q⟩ c
                show X.env.scope.names.lookup y ≠ some .local
                rw [ok.scope]
                exact locB_no hy)
            · exact .inl (by
                show X.env.scope.names.lookup x ≠ some .local
                rw [ok.scope]
                exact locB_no (by simpa using hx))
  · rename_i x px y py z pz a b c
    split at h
    · cases h
    · rename_i hst
      have sa : isStar a = false := by
        cases q : isStar a with
        | false => rfl
        | true => exact absurd (.inl q) hst
      have sb : isStar b = false := by
        cases q : isStar b with
        | false => rfl
        | true => exact absurd (.inr (.inl q)) hst
      have scc : isStar c = false := by
        cases q : isStar c with
        | false => rfl
        | true => exact absurd (.inr (.inr q)) hst
      cases h2 : trEs f [a, b, c] with
      | none => simp only [h2] at h; cases h
      | some es =>
        simp only [h2] at h
        obtain ⟨q1, q2, q3⟩ := es_ok (cl := callF P k) ih h2
        split at h
        · rename_i cc
          obtain ⟨⟨l1, l2, l3⟩, ⟨n1, n2⟩, ⟨d1, d2, d3⟩, f1, f2⟩ := cc
          cases h3 : findIx tc.N x with
          | none => simp only [h3] at h; cases h
          | some i =>
            cases h4 : findIx tc.N y with
            | none => simp only [h3, h4] at h; cases h
            | some j =>
              cases h5 : findIx tc.N z with
              | none => simp only [h3, h4, h5] at h; cases h
              | some l =>
                simp only [h3, h4, h5] at h
                cases h
                simp only [sm, ev]
                exact S_par3 ok.calm hN (at_ h3) (at_ h4) (at_ h5) (apart h3 h4 d1) (apart h3 h5 d2) (apart h4 h5 d3) (lk l1) (lk l2) (lk l3) q1 q2 (sw3 fk (star_not sa) (star_not sb) (star_not scc) n1 n2 (lk l1) (lk l2) (lk l3) d1 d2 d3 f1 f2)
        · cases h
  · cases h
/-- name = [..] -/
theorem asgLc_ok (ok : Ok P k tc X sc (fun _ => true)) {n : Nat} {x : Str} {px pos spos : Pos} {elt : Expr} {gs : List Comprehension} {scope : Scope} {t : Tn} {m : E} (ht : trTn tc sc (fun _ => true) n (.Name x px) = some t) (h : trE tc n sc (fun _ => true) (.ListComp elt gs scope pos) = some m) :
    PS X (.Assign [.Name x px] (.ListComp elt gs scope pos) spos) (TSt X.K (sm (callF P k) (.asg t m))) := by
  have fk : X.env.scope.kind = .function := by rw [ok.scope]; exact ok.fk
  have e0 : swapsWith (.ListComp elt gs scope pos) (some (.Name x px)) spos.line X.env = pure (X.env.blockKind == .function && X.env.kindOf x == some .local && px.line == pos.line && !(scope.names.any fun (n, k) => n == x && (k == .local || k == .cell))) := rfl
  cases hb : (X.env.blockKind == .function && X.env.kindOf x == some .local && px.line == pos.line && !(scope.names.any fun (n, k) => n == x && (k == .local || k == .cell))) with
  | false =>
    rw [hb] at e0
    simp only [sm]
    exact S_asg (ex_ok n ok _ _ h).1 ((tn_ok ok n).1 ht) e0 ss_name (fun _ _ q => nomatch q)
  | true =>
    rw [hb] at e0
    have hloc : X.env.scope.names.lookup x = some .local := by
      simp only [Bool.and_eq_true, beq_iff_eq] at hb
      exact hb.1.1.2
    obtain ⟨i, ei, rfl⟩ : ∃ i, findIx tc.N x = some i ∧ t = .nm i := by
      cases n with
      | zero => simp only [trTn] at ht; cases ht
      | succ n =>
        simp only [trTn] at ht
        rw [ok.scope] at hloc
        rw [hloc] at ht
        simp only at ht
        cases h1 : findIx tc.N x with
        | none => rw [h1] at ht; cases ht
        | some i =>
          rw [h1] at ht
          cases ht
          exact ⟨i, rfl, rfl⟩
    cases n with
    | zero => simp only [trE] at h; cases h
    | succ n =>
      have ihE : ∀ (e : Expr) (m : E), trE tc n sc (fun _ => true) e = some m → PE X e (T X.K (ev (callF P k) m)) := fun e m h => (ex_ok n ok e m h).1
      match gs, h with
      | [⟨tg, iter, ifs, asy⟩], h =>
        simp only [trE] at h
        split at h
        · rename_i c
          obtain ⟨c1, c2⟩ := c
          subst c1
          cases h1 : trSrc tc sc (trE tc n sc (fun _ => true)) tg iter with
          | none => simp only [h1] at h; cases h
          | some sl =>
            obtain ⟨s, l⟩ := sl
            cases h2 : trTn tc (relS scope sc) (fun x => scope.names.lookup x == some NameKind.cell) n tg with
            | none => simp only [h1, h2] at h; cases h
            | some t =>
              cases h3 : trE tc n (relS scope sc) (fun x => scope.names.lookup x == some NameKind.cell) elt with
              | none => simp only [h1, h2, h3] at h; cases h
              | some e' =>
                cases h4 : trIfs (trE tc n (relS scope sc) (fun x => scope.names.lookup x == some NameKind.cell)) ifs with
                | none => simp only [h1, h2, h3, h4] at h; cases h
                | some c' =>
                  simp only [h1, h2, h3, h4] at h
                  split at h
                  · rename_i hx
                    cases h
                    simp only [sm, ev]
                    have bk : BlkOk X.N X.env.scope scope (ownOf tc.N scope) := blkOk_by (by rw [ok.N, ok.scope]; exact c2)
                    refine S_setLc ok.calm (by rw [ok.N]; exact ok.nd) (by rw [ok.N]; exact findIx_ok ei) hloc e0 (src_ok ok ihE h1) bk (fun s H C cl fp => (tn_ok (ok.blk bk.kind s H C cl fp) n).1 h2) (fun s H C cl fp => ?_) (fun s H C cl fp => (ex_ok n (ok.blk bk.kind s H C cl fp) _ _ h3).1) (fold_no ?_ _) fun j hj => ?_
                    · have okb := ok.blk bk.kind s H C cl fp
                      match ifs, h4 with
                      | [], h4 =>
                        cases h4
                        simp only [ev]
                        exact PTs_nil
                      | [c0], h4 => exact PTs_one (ex_ok n okb _ _ h4).2
                    · intro es j p q
                      subst q
                      simp only [trSrc, trEs, isStar] at h1
                      cases h5 : trE tc n sc (fun _ => true) (.Set es j p) with
                      | none => simp [h5] at h1
                      | some z => exact tr_notSet h5 _ _ _ rfl
                    · have := List.all_eq_true.mp hx j hj
                      simpa using this
                  · cases h
        · cases h
      | [], h => simp only [trE] at h; cases h
      | _ :: _ :: _, h => simp only [trE] at h; cases h
end
end MP
namespace MP
open PySem L2 PySem.Spec PyProof.Rows
section
variable {P : List Fn} {k : Nat} {tc : Tc} {X : Cx} {sc : Scope}
theorem sub_assign {o i : Expr} {p : Pos} (h : isSlice i = false) (env : PySem.Env) (v : Value) : assign (.Subscript o i p) env v = (do
      let ov ← holding [v] (eval o env)
      let iv ← holding [v, ov] (eval i env)
      standAt p
      holding [v, ov, iv] (setItem ov iv v)
      release [v, ov, iv] []) := by
  cases i <;> first | rfl | cases h
theorem sws_name {e : Expr} {x : Str} {px : Pos} {l : Nat} {env : PySem.Env} (h : isComp e = false) : swapsWithSole [.Name x px] e l env = pure false := by cases e <;> first | rfl | cases h
theorem asg_ok (ok : Ok P k tc X sc (fun _ => true)) {n : Nat} {tg e : Expr} {pos : Pos} {m : Sm} (h : trAsg tc sc n tg e = some m) : PS X (.Assign [tg] e pos) (TSt X.K (sm (callF P k) m)) := by
  have ihE : ∀ (e : Expr) (m : E), trE tc n sc (fun _ => true) e = some m → PE X e (T X.K (ev (callF P k) m)) := fun e m h => (ex_ok n ok e m h).1
  unfold trAsg at h
  split at h
  · rename_i x px
    cases h1 : trTn tc sc (fun _ => true) n (.Name x px) with
    | none => simp only [h1] at h; cases h
    | some t =>
      cases h2 : trE tc n sc (fun _ => true) e with
      | none => simp only [h1, h2] at h; cases h
      | some e' =>
        simp only [h1, h2] at h
        cases h
        cases hc : isComp e with
        | false =>
          simp only [sm]
          exact S_asg (ihE _ _ h2) ((tn_ok ok n).1 h1) (sws_name hc) ss_name (fun _ _ q => nomatch q)
        | true =>
          cases e <;> first | (cases hc; done) | skip
          · exact asgLc_ok ok h1 h2
          · cases n with
            | zero => simp only [trE] at h2; cases h2
            | succ n => simp only [trE] at h2; cases h2
          · cases n with
            | zero => simp only [trE] at h2; cases h2
            | succ n => simp only [trE] at h2; cases h2
  · rename_i ts kk p
    split at h
    · exact par_ok ok ihE h
    · rename_i hnt
      have nt : isTup e = false := by
        cases e <;> first | rfl | exact absurd rfl (hnt _ _ _)
      split at h
      · rename_i o i sp y py
        split at h
        · cases h
        · rename_i hs
          have hs' : isSlice i = false := by simpa using hs
          cases h1 : trE tc n sc (fun _ => true) o with
          | none => simp only [h1] at h; cases h
          | some o' =>
            cases h2 : trE tc n sc (fun _ => true) i with
            | none => simp only [h1, h2] at h; cases h
            | some i' =>
              cases h3 : trTn tc sc (fun _ => true) n (.Name y py) with
              | none => simp only [h1, h2, h3] at h; cases h
              | some t =>
                cases h4 : trE tc n sc (fun _ => true) e with
                | none => cases t <;> (simp only [h1, h2, h3, h4] at h; cases h)
                | some e' =>
                  simp only [h1, h2, h3, h4] at h
                  cases t with
                  | tu ts => simp only at h; cases h
                  | nm j =>
                    simp only at h
                    cases h
                    simp only [sm]
                    exact S_subV ok.calm (ihE _ _ h4) (TG_sub (ihE _ _ h1) (ihE _ _ h2) (sub_assign hs' X.env)) ((tn_ok ok n).1 h3) sw_tuple (ss_tup nt) (fun _ _ q => nomatch q) (fun _ _ q => nomatch q)
      · cases h1 : trTn tc sc (fun _ => true) n (.Tuple ts kk p) with
        | none => simp only [h1] at h; cases h
        | some t =>
          cases h2 : trE tc n sc (fun _ => true) e with
          | none => simp only [h1, h2] at h; cases h
          | some e' =>
            simp only [h1, h2] at h
            cases h
            simp only [sm]
            exact S_asg (ihE _ _ h2) ((tn_ok ok n).1 h1) sw_tuple (ss_tup nt) (fun _ _ q => nomatch q)
  · rename_i o i sp
    split at h
    · cases h
    · rename_i hs
      have hs' : isSlice i = false := by simpa using hs
      cases h1 : trE tc n sc (fun _ => true) o with
      | none => simp only [h1] at h; cases h
      | some o' =>
        cases h2 : trE tc n sc (fun _ => true) i with
        | none => simp only [h1, h2] at h; cases h
        | some i' =>
          cases h3 : trE tc n sc (fun _ => true) e with
          | none => simp only [h1, h2, h3] at h; cases h
          | some e' =>
            simp only [h1, h2, h3] at h
            cases h
            simp only [sm]
            exact S_sub (ihE _ _ h3) (TG_sub (ihE _ _ h1) (ihE _ _ h2) (sub_assign hs' X.env)) sw_sub ss_sub (fun _ _ q => nomatch q)
  · cases h
theorem S_doc {x j : _} {pos pos' : Pos} : PS X (.Expr (.Constant (.str x) j pos) pos') (TSt X.K sNext) := PS.to ps_doc fun E σ H ⟨β, env, S, fl, env', S', r, er, h, q⟩ => by
  cases h
  exact q β σ H (Le.refl _) (Ext.refl _) r er
theorem src_notSet {f : Expr → Option E} {tc : Tc} {sc : Scope} {tg iter : Expr} {sl : Sr × Es} (hf : ∀ es j p, f (.Set es j p) = none) (h : trSrc tc sc f tg iter = some sl) : ∀ es j p, iter ≠ Expr.Set es j p := by
  intro es j p q
  subst q
  simp only [trSrc, trEs, isStar, hf] at h
  simp at h
theorem st_ok {P : List Fn} {k : Nat} {tc : Tc} {X : Cx} {sc : Scope} (ok : Ok P k tc X sc (fun _ => true)) (hp : PassesOwn (model X.prog X.w) X.A X.env X.xe) : ∀ (n : Nat),
    (∀ (st : Stmt) (m : Sm), trS tc n sc st = some m → PS X st (TSt X.K (sm (callF P k) m))) ∧ ∀ (sts : List Stmt) (m : Ss), trSs tc n sc sts = some m → PSs X sts (TSt X.K (ss (callF P k) m))
  | 0 => ⟨fun st m h => (by simp only [trS] at h; cases h), fun st m h => (by simp only [trSs] at h; cases h)⟩
  | n + 1 => by
    obtain ⟨i1, i2⟩ := st_ok ok hp n
    have ihE : ∀ (e : Expr) (m : E), trE tc n sc (fun _ => true) e = some m → PE X e (T X.K (ev (callF P k) m)) := fun e m h => (ex_ok n ok e m h).1
    have ihT : ∀ (e : Expr) (m : E), trE tc n sc (fun _ => true) e = some m → PT X e (TB X.K (fB (ev (callF P k) m))) := fun e m h => (ex_ok n ok e m h).2
    refine ⟨fun st m h => ?_, fun sts m h => ?_⟩
    · simp only [trS] at h
      split at h
      · cases h; simp only [sm]; exact S_pass
      · cases h; simp only [sm]; exact S_brk
      · cases h; simp only [sm]; exact S_cont
      · cases h; simp only [sm]; exact S_never
      · cases h; simp only [sm, ev]; exact S_retN
      · rename_i e pos
        cases h1 : trE tc n sc (fun _ => true) e with
        | none => rw [h1] at h; cases h
        | some m1 =>
          rw [h1] at h
          cases h
          simp only [sm]
          exact S_ret (ihE _ _ h1)
      · rename_i e pos
        split at h
        · rename_i ht
          cases h
          simp only [sm]
          cases e <;> first | (cases ht; done) | skip
          rename_i c j p
          cases c <;> first | (cases ht; done) | skip
          exact S_doc
        · split at h
          · cases h
          · rename_i hc
            cases h1 : trE tc n sc (fun _ => true) e with
            | none => rw [h1] at h; cases h
            | some m1 =>
              rw [h1] at h
              cases h
              simp only [sm]
              exact S_expr (ihE _ _ h1) (sw_drop (by simpa using hc))
      · rename_i c a b pos
        cases h1 : trE tc n sc (fun _ => true) c with
        | none => simp only [h1] at h; cases h
        | some c' =>
          cases h2 : trSs tc n sc a with
          | none => simp only [h1, h2] at h; cases h
          | some a' =>
            cases h3 : trSs tc n sc b with
            | none => simp only [h1, h2, h3] at h; cases h
            | some b' =>
              simp only [h1, h2, h3] at h
              cases h
              simp only [sm]
              exact S_if (ihT _ _ h1) (i2 _ _ h2) (i2 _ _ h3)
      · rename_i tg iter body pos
        cases h1 : trSrc tc sc (trE tc n sc (fun _ => true)) tg iter with
        | none => simp only [h1] at h; cases h
        | some sl =>
          obtain ⟨s, l⟩ := sl
          cases h2 : trTn tc sc (fun _ => true) n tg with
          | none => simp only [h1, h2] at h; cases h
          | some t =>
            cases h3 : trSs tc n sc body with
            | none => simp only [h1, h2, h3] at h; cases h
            | some b =>
              simp only [h1, h2, h3] at h
              cases h
              simp only [sm]
              refine S_for hp ok.calm (src_ok ok ihE h1) ((tn_ok ok n).1 h2) (i2 _ _ h3) (fold_no (src_notSet (fun es j p => ?_) h1) _)
              cases n with
              | zero => simp only [trE]
              | succ n => simp only [trE]
      · rename_i c body pos
        cases h1 : trE tc n sc (fun _ => true) c with
        | none => simp only [h1] at h; cases h
        | some c' =>
          cases h2 : trSs tc n sc body with
          | none => simp only [h1, h2] at h; cases h
          | some b' =>
            simp only [h1, h2] at h
            cases h
            simp only [sm]
            exact S_while hp (ihT _ _ h1) (i2 _ _ h2)
      · exact asg_ok ok h
      · cases h
    · cases sts with
      | nil =>
        simp only [trSs] at h
        cases h
        simp only [ss]
        exact S_nil
      | cons s r =>
        simp only [trSs] at h
        cases h1 : trS tc n sc s with
        | none => simp only [h1] at h; cases h
        | some a =>
          cases h2 : trSs tc n sc r with
          | none => simp only [h1, h2] at h; cases h
          | some b =>
            simp only [h1, h2] at h
            cases h
            simp only [ss]
            exact S_cons (i1 _ _ h1) (i2 _ _ h2)
end
end MP
namespace MP
open PySem L2 PySem.Spec PyProof.Rows
/-! ### a def by its body -/
theorem er_start {K : PySem.W.Frag} {β : List Addr} {H : Hp} {N : List Str} {vs : List V} {ds : List D} {np nl : Nat} (r : VRs K H β vs ds) (h1 : ds.length = np) (h2 : nl = N.length) : ER K β H (L2.start N vs) (ds.map some ++ List.replicate (nl - np) none) := by
  have hl := r.length
  refine ⟨?_, fun i d h => ?_⟩
  · unfold L2.start
    simp only [List.length_append, List.length_map, List.length_replicate]
    omega
  · by_cases hi : i < ds.length
    · rw [List.getElem?_append_left (by simpa using hi), List.getElem?_map] at h
      cases e : ds[i]? with
      | none => rw [e] at h; cases h
      | some d' =>
        rw [e] at h
        cases h
        obtain ⟨v, q1, q2⟩ := r.get e
        refine ⟨v, ?_, q2⟩
        unfold L2.start
        rw [List.getElem?_append_left (by simp; omega), List.getElem?_map, q1]
        rfl
    · rw [List.getElem?_append_right (by simpa using hi), List.getElem?_replicate] at h
      split at h <;> cases h
theorem fnG_of {P : Program} {w : World} {K : PySem.W.Frag} {mg : Str → Option Value} {base : Heap} {k : Nat} {f : Addr} {name qual : Str} {params : Arguments} {body : List Stmt} {scope : Scope} {dV kV doc pm cdv ct oc : Value} {an od : Option Addr}
    {osl : Array (Option Value)} {N ps : List Str} {fn : Fn} {cl : Nat → ON} (look : K.lookup f = some ⟨oc, od, .func (PySem.W.fnOf name qual params body scope dV kV doc pm an cdv ct), osl⟩) (code : PySem.W.codeIn K cdv qual = true) (sco : FnScope N ps scope) (np : fn.np = ps.length) (nl : fn.nl = N.length)
    (hbody : ∀ (A : Around) (outer : List PySem.Env) (s : Shared) (H : Hp) (E : XK), A.guards = some [] → Room k (A.deeper (envOfC qual scope s.heap.objs.size f cdv)) → PSs (cxOf CX0 P w K mg base N qual scope f cdv A outer s H E).nox body (TSt K (ss cl fn.body))) :
    FnG P w K mg base (k + 1) f (PySem.W.fnOf name qual params body scope dV kV doc pm an cdv ct) ps (spG K ps.length (runF cl fn)) := by
  refine ⟨fun vs H Q E h => h.1, fun A hg room outer s H args us vs Q E en bt rv hsp => ?_⟩
  obtain ⟨hl, β, S, ds, d, S', r, vr, e, q⟩ := hsp
  have KX : K.In s.heap := en.mod.kin.keeps fun b o z => (en.bs b o z).1
  have kinds : ∀ y ∈ ps.zip us, scope.names.lookup y.1 = some .local ∨ (scope.names.lookup y.1 = some .cell ∧ ((cellsFrom (s.heap.objs.size + 1) scope.names []).lookup y.1).isSome = true) := fun ⟨n, v⟩ hy =>
    (sco.par n (List.of_mem_zip hy).1).imp id fun z => ⟨z, PySem.W.cellsFrom_some _ _ _ (.inl z)⟩
  refine codeAny_call_function room.depth (KX _ _ look) rfl sco.co sco.gen rfl (PySem.W.codeRec_of KX code) (bt _ _ _ _ ?_)
  refine wpAny_newFunctionEnv_cells sco.kind kinds fun env he s1 x => ?_
  subst he
  refine ⟨Heap.NoLimit.keeps (en.mod.nolimit.keeps fun b o z => (en.bs b o z).1) x.toInCall.keep, codeAny_func ?_⟩
  have J : Inv (cxOf CX0 P w K mg base N qual scope f cdv A outer s H E) [] (L2.start N vs) H s1 := inv_start sco room.hd en hl rv x
  have hb := (hbody A outer s H E hg (room.deeper _)).nox
  have rd : TSt K (ss cl fn.body) { nx := fun _ H' => Q .non H', rt := Q } (L2.start N vs) H := by
    unfold runF at e
    split at e
    · rename_i hn
      split at e
      · rename_i d1 env1 S1 e1
        cases e
        refine ⟨β, _, S, _, _, _, r, er_start vr hn nl, e1, fun β' σ' H' l x r' er' => ?_⟩
        exact fun v hv => q β' v H' l x r' hv
      · rename_i env1 S1 e1
        cases e
        refine ⟨β, _, S, _, _, _, r, er_start vr hn nl, e1, fun β' σ' H' l x r' er' => ?_⟩
        exact q β' .non H' l x r' .non
      · cases e
    · cases e
  refine wpAny_mono (hb.run [] s1 (L2.start N vs) H _ J rd) (fun fl s' hs => ?_) fun e s' hs => hs
  cases fl with
  | ret u =>
    obtain ⟨v, σ', H', I', rv', q'⟩ := hs
    exact ⟨v, H', I'.os, I'.bare, I'.base, I'.hok, rv', q'⟩
  | next =>
    obtain ⟨σ', H', I', q'⟩ := hs
    exact ⟨V.non, H', I'.os, I'.bare, I'.base, I'.hok, rfl, q'⟩
  | brk => exact (hs.choose_spec.choose_spec.2 : False).elim
  | cont => exact (hs.choose_spec.choose_spec.2 : False).elim

/-! ### the table of defs -/
structure Ent where
  x : Str
  st : Stmt
  ps : List Str
  N : List Str
  ks : List (List Str × List Nat)
  fn : Fn
def gFns : Nat → List Ent → List (Str × Gk)
  | _, [] => []
  | i, e :: r => (e.x, .fn i e.ps e.ks) :: gFns (i + 1) r
def gOf (es : List Ent) (cs : List (Str × D)) : List (Str × Gk) := gFns 0 es ++ cs.map fun p => (p.1, .con p.2)
theorem gFns_mem : ∀ {j : Nat} {es : List Ent} {p : Str × Gk}, p ∈ gFns j es → ∃ i e, es[i]? = some e ∧ p = (e.x, .fn (j + i) e.ps e.ks)
  | _, [], _, h => by cases h
  | j, e :: r, p, h => by
    rcases List.mem_cons.mp h with h | h
    · exact ⟨0, e, rfl, h⟩
    · obtain ⟨i, e', q1, q2⟩ := gFns_mem h
      exact ⟨i + 1, e', by simpa using q1, by rw [q2, Nat.add_assoc, Nat.add_comm 1 i]⟩
structure TxtOk (G : List (Str × Gk)) (e : Ent) : Prop where
  tr : trSs ⟨e.N, G⟩ 60 (defScope e.st) (defBody e.st) = some e.fn.body
  sc : FnScope e.N e.ps (defScope e.st)
  np : e.fn.np = e.ps.length
  nl : e.fn.nl = e.N.length
  pos : ∀ (kV doc pm : Value) (an : Option Addr) (cdv ct : Value) (us : List Value), us.length = e.ps.length → bindArgs (PySem.W.fnOf e.x e.x (defArgs e.st) (defBody e.st) (defScope e.st) .none kV doc pm an cdv ct) ⟨us, []⟩ = pure (e.ps.zip us)
  kws : ∀ p ∈ e.ks, ∀ (kV doc pm : Value) (an : Option Addr) (cdv ct : Value) (us ws : List Value), us.length = p.1.length → permD p.2 us = some ws → bindArgs (PySem.W.fnOf e.x e.x (defArgs e.st) (defBody e.st) (defScope e.st) .none kV doc pm an cdv ct) ⟨[], p.1.zip us⟩ = pure (e.ps.zip ws)
structure HeapAt (K : PySem.W.Frag) (mg : Str → Option Value) (e : Ent) (f : Addr) (fd : FuncData) : Prop where
  mg : mg e.x = some (.ref f)
  keep : PySem.W.keepIn K (.ref f) = true
  ex : ∃ oc od osl kV doc pm an cdv ct, fd = PySem.W.fnOf e.x e.x (defArgs e.st) (defBody e.st) (defScope e.st) .none kV doc pm an cdv ct ∧ K.lookup f = some ⟨oc, od, .func fd, osl⟩ ∧ PySem.W.codeIn K cdv e.x = true
structure TabOk (K : PySem.W.Frag) (mg : Str → Option Value) (es : List Ent) (cs : List (Str × D)) : Prop where
  txt : ∀ e ∈ es, TxtOk (gOf es cs) e
  heap : ∀ e ∈ es, ∃ f fd, HeapAt K mg e f fd
  con : ∀ p ∈ cs, ∃ u v, mg p.1 = some u ∧ RelV v u ∧ ∀ H β, VR K H β v p.2
  blt : ∀ x ∈ bltNames, gkOf ⟨[], gOf es cs⟩ x = none → mg x = none
theorem gk_mem {tc : Tc} {x : Str} {g : Gk} (h : gkOf tc x = some g) : (x, g) ∈ tc.G := by
  unfold gkOf at h
  cases e : tc.G.find? fun p => p.1 == x with
  | none => rw [e] at h; cases h
  | some p =>
    rw [e] at h
    obtain ⟨y, g'⟩ := p
    cases h
    have h1 := List.mem_of_find?_eq_some e
    have h2 := List.find?_some e
    have h3 : y = x := by simpa using h2
    rw [← h3]
    exact h1
theorem gOf_fn {es : List Ent} {cs : List (Str × D)} {x : Str} {i : Nat} {ps : List Str} {ks : List (List Str × List Nat)} (h : (x, Gk.fn i ps ks) ∈ gOf es cs) : ∃ e, es[i]? = some e ∧ e.x = x ∧ e.ps = ps ∧ e.ks = ks := by
  rcases List.mem_append.mp h with h | h
  · obtain ⟨j, e, q1, q2⟩ := gFns_mem h
    simp only [Prod.mk.injEq, Gk.fn.injEq, Nat.zero_add] at q2
    obtain ⟨rfl, rfl, rfl, rfl⟩ := q2
    exact ⟨e, q1, rfl, rfl, rfl⟩
  · obtain ⟨p, _, q⟩ := List.mem_map.mp h
    cases q
theorem gOf_con {es : List Ent} {cs : List (Str × D)} {x : Str} {d : D} (h : (x, Gk.con d) ∈ gOf es cs) : (x, d) ∈ cs := by
  rcases List.mem_append.mp h with h | h
  · obtain ⟨j, e, q1, q2⟩ := gFns_mem h
    cases q2
  · obtain ⟨p, q1, q⟩ := List.mem_map.mp h
    cases q
    exact q1
theorem tab_ok {P : Program} {w : World} {K : PySem.W.Frag} {mg : Str → Option Value} {base : Heap} {es : List Ent} {cs : List (Str × D)} (ok : TabOk K mg es cs) : ∀ (k : Nat) {i : Nat} {e : Ent} {f : Addr} {fd : FuncData}, es[i]? = some e → HeapAt K mg e f fd →
    FnG P w K mg base k f fd e.ps (spG K e.ps.length (callF (es.map Ent.fn) k i))
  | 0, i, e, f, fd, _, _ => ⟨fun vs H Q E h => h.1, fun A _ _ outer s H args us vs Q E _ _ _ h => by
      obtain ⟨_, β, S, ds, d, S', r, vr, h, q⟩ := h
      cases h⟩
  | k + 1, i, e, f, fd, hi, ha => by
    have te := ok.txt e (List.mem_of_getElem? hi)
    obtain ⟨oc, od, osl, kV, doc, pm, an, cdv, ct, rfl, look, code⟩ := ha.ex
    have ec : callF (es.map Ent.fn) (k + 1) i = runF (callF (es.map Ent.fn) k) e.fn := by
      funext ds S
      show (match (es.map Ent.fn)[i]? with
        | some fn => runF (callF (es.map Ent.fn) k) fn ds S
        | none => none) = _
      rw [List.getElem?_map, hi]
      rfl
    rw [ec]
    refine fnG_of look code te.sc te.np te.nl fun A outer s H E hg room => ?_
    refine (st_ok (sc := defScope e.st) (tc := ⟨e.N, gOf es cs⟩) ⟨rfl, te.sc.kind, rfl, te.sc.nd, rfl, hg, room, fun _ _ => rfl, fun x d h => ?_, fun x j ps ks h => ?_, fun x hx h => ok.blt x hx h⟩ PassesOwn.never 60).2 _ _ te.tr
    · exact ok.con (x, d) (gOf_con (gk_mem h))
    · obtain ⟨e', h1, rfl, rfl, rfl⟩ := gOf_fn (gk_mem h)
      have m' := List.mem_of_getElem? h1
      obtain ⟨f', fd', ha'⟩ := ok.heap e' m'
      have te' := ok.txt e' m'
      obtain ⟨oc', od', osl', kV', doc', pm', an', cdv', ct', e1, look', code'⟩ := ha'.ex
      refine ⟨f', fd', ha'.mg, ha'.keep, tab_ok ok k h1 ha', fun s us hl => ?_, fun p hp s us ws hl hw => ?_⟩
      · rw [e1]
        exact .of_eq (te'.pos _ _ _ _ _ _ us hl)
      · rw [e1]
        exact .of_eq (te'.kws p hp _ _ _ _ _ _ us ws hl hw)
end MP
namespace MP
open PySem L2 PySem.Spec PyProof.Rows
/-! ### the end of a law -/
/-- what the walk leaves behind the call -/
def Left (s₁ : Shared) (r : Result) (s' : Shared) : Prop := r = .ok (.ret (.bool true)) ∧ OldK s₁.heap s'.heap ∧ s'.os = s₁.os ∧ AllBare s'.gens
section
variable {P : Program} {w : World} {K : PySem.W.Frag} {mg mb : Str → Option Value} {k : Nat} {fa a : Addr} {fd : FuncData} {x : Str} {g : ON} {s₁ : Shared} {vs : List Value} {ns : List Int}
/-- H knows the script at most -/
structure Known (P : Program) (w : World) (K : PySem.W.Frag) (s₁ : Shared) (a : Addr) (xs : List V) (H : Hp) : Prop where
  none_ : ∀ b, b ≠ a → H b = none
  at_ : H a = none ∨ ∃ o, H a = some (.frz o (.lst xs))
  own : H a ≠ none → K.lookup a = none
  hok : HOk P w H s₁.heap
  fr : FrL K H a xs
theorem vr_ints {H : Hp} {β : List Addr} : ∀ ns : List Int, VRs K H β (ns.map V.int) (ns.map D.int)
  | [] => .nil
  | _ :: r => .cons (.int _) (vr_ints r)
theorem call_known {H : Hp} (kn : Known P w K s₁ a (ns.map V.int) H) (KX : K.In s₁.heap) (gl : s₁.heap.Ns mainGlobals mg) (bl : s₁.heap.Ns builtinsNs mb) (blt : ∀ x : Str, x ≠ "__name__" → mb x = bootBuiltins x) (lim : s₁.heap.NoLimit) (gens : s₁.gens = #[])
    (sc : s₁.heap.get? a = some { cls := .type "list", data := .seq vs.toArray }) (room : Room k callerA)
    (F : ∀ base : Heap, K.In base → base.Ns mainGlobals mg → FnG P w K mg base k fa fd [x] (spG K 1 g)) (bind : ∀ (s : Shared) (u : Value), BindsTo s fd ⟨[u], []⟩ [(x, u)]) (run : ∃ S', g [.ref 0] [.fro (ns.map D.int)] = some (.bl true, S')) :
    codeAny (model P w) callerA (.call (.ref fa) ⟨[.ref a], []⟩) (Left s₁) s₁ := by
  obtain ⟨S', run⟩ := run
  have only : ∀ {b : Addr}, H b ≠ none → b = a := fun {b} h => Classical.byContradiction fun q => h (kn.none_ b q)
  have hid : ∀ {b : Addr} {o : Obj}, s₁.heap.get? b = some o → H b = none → (hidT s₁.heap H).get? b = some o := fun e n => hidT_get e n
  have nodict : ∀ {b : Addr} {o : Obj} {es : Array DictEntry} {ep : Nat}, s₁.heap.get? b = some o → o.data = .dict es ep → H b = none := fun {b o es ep} e d => Classical.byContradiction fun q => by
    have z := only q
    subst z
    rw [sc] at e
    cases e
    have z : Data.seq vs.toArray _ = Data.dict es ep := d
    cases z
  have names : ∀ {b : Addr} {m : Str → Option Value}, s₁.heap.Ns b m → (hidT s₁.heap H).Ns b m := fun {b m} h => by
    obtain ⟨o, es, ep, e, d, r⟩ := h
    exact ⟨o, es, ep, hid e (nodict e d), d, r⟩
  have frag : K.In (hidT s₁.heap H) := fun b o e => hid (KX b o e) (Classical.byContradiction fun q => by
    have z := only q
    subst z
    rw [kn.own q] at e
    cases e)
  have mod : Mod K mg (hidT s₁.heap H) := by
    obtain ⟨mc, l1, l2⟩ := lim
    exact ⟨frag, names gl, ⟨mb, names bl, blt⟩, ⟨mc, names l1, l2⟩⟩
  have en : Env0 P w K mg (hidT s₁.heap H) callerA [] s₁ H := by
    refine ⟨rfl, mod, fun b o e => of_hidT e, Nat.le_of_eq (hidT_size _ _), trivial, fun b hb => ?_, kn.hok, .of_eq gens⟩
    cases (show b ∈ ([] : List Addr) from hb)
  have rd : R K [a] H [.fro (ns.map D.int)] := by
    refine ⟨rfl, fun n m b c c' h1 h2 h3 h4 h5 h6 => ?_, fun n b c h1 h2 => ?_⟩
    · cases n with
      | zero =>
        cases h3
        cases h5
      | succ n => simp at h3
    · cases n with
      | zero =>
        cases h1
        cases h2
        exact ⟨_, kn.fr, vr_ints ns⟩
      | succ n => simp at h1
  have sp : spG K 1 g [.ref a] H (fun v _ => v = .bl true) E0 := ⟨rfl, [a], _, [.ref 0], _, _, rd, .cons (.ref rfl) .nil, run, fun β' v H' _ _ _ hv => by
    cases hv
    rfl⟩
  refine codeAny_mono ((F _ frag (names gl)).run callerA rfl room [] s₁ H ⟨[.ref a], []⟩ [.ref a] [.ref a] _ _ en (bind s₁ (.ref a)) (.cons rfl .nil) sp) fun r s' h => ?_
  cases r with
  | error e => exact (h : False).elim
  | ok fl =>
    cases fl <;> first | exact (h : False).elim | skip
    rename_i u
    obtain ⟨v, H', os, bare, un, hok', rv, q⟩ := h
    have q1 : v = .bl true := q
    subst q1
    have q2 : u = Value.bool true := rv
    subst q2
    refine ⟨rfl, OldK.of_keep fun b o e => ?_, os, bare⟩
    rcases Classical.em (H b = none) with z | z
    · exact un.keep b o e z (fun q => by cases (show b ∈ ([] : List Addr) from q)) (fun q => by cases (show b ∈ ([] : List Addr) from q))
    · have z1 := only z
      subst z1
      rcases kn.at_ with z2 | ⟨ob, z2⟩
      · exact absurd z2 z
      · obtain ⟨y1, _⟩ := kn.hok b _ z2
        obtain ⟨y2, _⟩ := hok' b _ (un.frzs b ob _ z2)
        rw [e] at y1
        cases y1
        exact y2
theorem call_law (KX : K.In s₁.heap) (gl : s₁.heap.Ns mainGlobals mg) (bl : s₁.heap.Ns builtinsNs mb) (blt : ∀ x : Str, x ≠ "__name__" → mb x = bootBuiltins x) (lim : s₁.heap.NoLimit) (gens : s₁.gens = #[])
    (sc : s₁.heap.get? a = some { cls := .type "list", data := .seq vs.toArray }) (hints : IntsAre vs ns) (few : ns.length ≤ sizeLine) (room : Room k callerA)
    (F : ∀ base : Heap, K.In base → base.Ns mainGlobals mg → FnG P w K mg base k fa fd [x] (spG K 1 g)) (bind : ∀ (s : Shared) (u : Value), BindsTo s fd ⟨[u], []⟩ [(x, u)]) (run : ∃ S', g [.ref 0] [.fro (ns.map D.int)] = some (.bl true, S')) :
    codeAny (model P w) callerA (.call (.ref fa) ⟨[.ref a], []⟩) (Left s₁) s₁ := by
  have vv := vals_ints hints
  rcases Classical.em (K.lookup a = none) with q | q
  · have yes : (if a = a then some (HO.frz { cls := .type "list", data := .seq vs.toArray } (.lst (ns.map V.int))) else none) = some (HO.frz { cls := .type "list", data := .seq vs.toArray } (.lst (ns.map V.int))) := if_pos rfl
    refine call_known (H := fun b => if b = a then some (.frz { cls := .type "list", data := .seq vs.toArray } (.lst (ns.map V.int))) else none) ⟨fun b h => if_neg h, .inr ⟨_, yes⟩, fun _ => q, fun b u z => ?_, .inl ⟨_, yes⟩⟩ KX gl bl blt lim gens sc room F bind run
    rcases Classical.em (b = a) with y | y
    · subst y
      rw [yes] at z
      cases z
      refine ⟨sc, ?_, vs, _, vv, sc⟩
      rw [List.length_map]
      exact few
    · have z' := (if_neg y).symm.trans z
      cases z'
  · obtain ⟨o, ho⟩ : ∃ o, K.lookup a = some o := by
      cases e : K.lookup a with
      | none => exact absurd e q
      | some o => exact ⟨o, rfl⟩
    have e := KX a o ho
    rw [sc] at e
    cases e
    refine call_known (H := fun _ => none) ⟨fun _ _ => rfl, .inl rfl, fun z => absurd rfl z, fun b u z => (by have z' : (none : Option HO) = some u := z; cases z'), .inr fun H' => .inr ⟨_, vs.toArray, _, ho, rfl, rfl, rfl, ?_, by simpa using vv⟩⟩ KX gl bl blt lim gens sc room F bind run
    rw [List.size_toArray, hints.length]
    exact few
end
/-- a law by its table: the i-th def is the law -/
theorem law_walk {l : PySem.W.OpenLaw} {n k : Nat} {q : Program} {loose : List Str} {XP : (Str → Option Value) → Heap → Prop} {YP : World → Heap → Prop} {d : DefRec} {x : Str} {es : List Ent} {cs : List (Str × D)} {i : Nat} {e : Ent}
    (most : l.most = some n) (few : n ≤ sizeLine) (dflt : d.params.defaults = []) (room : Room k callerA) (hi : es[i]? = some e) (hx : e.x = d.name) (hps : e.ps = [x])
    (F : ∀ (w : World) (mg : Str → Option Value) (h : Heap), YP w h → h.Ns mainGlobals mg → ∃ K : PySem.W.Frag, K.In h ∧ TabOk K mg es cs)
    (run : ∀ ns : List Int, ns.length ≤ n → ∃ S', callF (es.map Ent.fn) k i [.ref 0] [.fro (ns.map D.int)] = some (.bl true, S')) :
    PySem.W.WalkO q loose XP YP l.row.toRowW d [] (fun f vs => PySem.call f vs) := by
  refine Att.attach_call most dflt fun w s₀ s₁ mg mb fa o pm cd doc a vs ns G Y ho hd hcd hmg hobj hints hlen hg => ?_
  obtain ⟨K, KX, tab⟩ := F w mg _ Y G.T.g
  have em := List.mem_of_getElem? hi
  obtain ⟨f, fd, ha⟩ := tab.heap e em
  have ef : f = fa := by
    have z := ha.mg
    rw [hx, hmg] at z
    cases z
    rfl
  subst ef
  have txt := tab.txt e em
  obtain ⟨oc, od, osl, kV, doc', pm', an, cdv, ct, e1, look, code⟩ := ha.ex
  refine call_law (fd := fd) (x := x) (k := k) KX G.T.g G.T.b G.T.builtins G.T.nolimit hg hobj hints (Nat.le_trans hlen few) room (fun base _ _ => ?_) (fun s u => ?_) (run ns hlen)
  · have z := tab_ok (P := l.prog) (w := w) (base := base) tab k hi ha
    rw [hps] at z
    exact z
  · rw [e1]
    have z := txt.pos kV doc' pm' an cdv ct [u] (by rw [hps]; rfl)
    rw [hps] at z
    exact .of_eq z
end MP
namespace MP
open PySem L2 PySem.Spec PyProof.Rows
/-! ### what stands in the module, as one equation -/
mutual
def chkV (K : PySem.W.Frag) : D → Value → Bool
  | .non, .none => true
  | .bl b, .bool c => b == c
  | .int i, .int j _ => decide (j = i)
  | .str s, .str t _ => decide (t = s)
  | .tup ds, .ref a => match K.lookup a with
    | some ⟨.type n, _, .seq vs _, _⟩ => decide (n = "tuple") && (decide (vs.size ≤ sizeLine) && chkVs K ds vs.toList)
    | _ => false
  | _, _ => false
def chkVs (K : PySem.W.Frag) : List D → List Value → Bool
  | [], [] => true
  | d :: ds, v :: vs => chkV K d v && chkVs K ds vs
  | _, _ => false
end
mutual
theorem chkV_ok {K : PySem.W.Frag} : ∀ (d : D) {u : Value}, chkV K d u = true → ∃ v : V, RelV v u ∧ ∀ H β, VR K H β v d
  | .non, u, h => by
    cases u <;> simp only [chkV] at h <;> first | (cases h; done) | skip
    exact ⟨.non, rfl, fun _ _ => .non⟩
  | .bl b, u, h => by
    cases u <;> simp only [chkV] at h <;> first | (cases h; done) | skip
    exact ⟨.bl b, by rw [eq_of_beq h]; rfl, fun _ _ => .bl b⟩
  | .int i, u, h => by
    cases u <;> simp only [chkV] at h <;> first | (cases h; done) | skip
    exact ⟨.int i, by rw [of_decide_eq_true h]; exact ⟨_, rfl⟩, fun _ _ => .int i⟩
  | .str s, u, h => by
    cases u <;> simp only [chkV] at h <;> first | (cases h; done) | skip
    exact ⟨.str s, by rw [of_decide_eq_true h]; exact ⟨_, rfl⟩, fun _ _ => .str s⟩
  | .ref n, u, h => by
    cases u <;> simp only [chkV] at h <;> cases h
  | .tup ds, u, h => by
    cases u <;> simp only [chkV] at h <;> first | (cases h; done) | skip
    rename_i a
    split at h
    · rename_i n od vs ep sl e
      simp only [Bool.and_eq_true, decide_eq_true_eq] at h
      obtain ⟨h1, h2, h3⟩ := h
      obtain ⟨xs, q1, q2⟩ := chkVs_ok ds h3
      exact ⟨.ref a, rfl, fun H β => .tup (xs := xs) (.inr ⟨_, vs, _, e, by rw [h1], rfl, h2, q1⟩) (q2 H β)⟩
    · cases h
theorem chkVs_ok {K : PySem.W.Frag} : ∀ (ds : List D) {us : List Value}, chkVs K ds us = true → ∃ vs : List V, Vals vs us ∧ ∀ H β, VRs K H β vs ds
  | [], us, h => by
    cases us <;> simp only [chkVs] at h <;> first | (cases h; done) | skip
    exact ⟨[], .nil, fun _ _ => .nil⟩
  | d :: ds, us, h => by
    cases us <;> simp only [chkVs] at h <;> first | (cases h; done) | skip
    simp only [Bool.and_eq_true] at h
    obtain ⟨v, q1, q2⟩ := chkV_ok d h.1
    obtain ⟨vs, q3, q4⟩ := chkVs_ok ds h.2
    exact ⟨v :: vs, .cons q1 q3, fun H β => .cons (q2 H β) (q4 H β)⟩
end
def conB (K : PySem.W.Frag) (p : Str × D) : Bool := match PySem.W.nsIn K mainGlobals p.1 with
  | some (some u) => chkV K p.2 u
  | _ => false
def defB (K : PySem.W.Frag) (e : Ent) : Bool := (He.Fa.glo e.x).ok K && ((He.Fa.keep e.x).ok K && (He.Fa.code (e.x, none) e.x).ok K)
def bltB (K : PySem.W.Frag) (G : List (Str × Gk)) (x : Str) : Bool := (gkOf ⟨[], G⟩ x).isSome || (He.Fa.free x).ok K
def Ent.d (e : Ent) : He.FnD := ⟨(e.x, none), e.x, e.x, defArgs e.st, defBody e.st, defScope e.st⟩
def obsT (es : List Ent) (cs : List (Str × D)) (K : PySem.W.Frag) : He.Al := (es.all (defB K) && (cs.all (conB K) && bltNames.all (bltB K (gOf es cs))), es.map fun e => He.fnObs K (e.x, none))
def valT (es : List Ent) : He.Al := (true, es.map fun e => e.d.val)
theorem tab_of {K : PySem.W.Frag} {h : Heap} {mg : Str → Option Value} {es : List Ent} {cs : List (Str × D)} (KX : K.In h) (gl : h.Ns mainGlobals mg) (says : obsT es cs K = valT es) (txt : ∀ e ∈ es, TxtOk (gOf es cs) e) : TabOk K mg es cs := by
  have s1 : (es.all (defB K) && (cs.all (conB K) && bltNames.all (bltB K (gOf es cs)))) = true := congrArg (fun z : He.Al => z.1) says
  have s2 : (es.map fun e => He.fnObs K (e.x, none)) = es.map fun e => e.d.val := congrArg (fun z : He.Al => z.2) says
  simp only [Bool.and_eq_true] at s1
  obtain ⟨f1, f2, f3⟩ := s1
  refine ⟨txt, fun e he => ?_, fun p hp => ?_, fun x hx hn => ?_⟩
  · have z := List.all_eq_true.mp f1 e he
    unfold defB at z
    simp only [Bool.and_eq_true] at z
    obtain ⟨z1, z2, z3⟩ := z
    obtain ⟨i, hi⟩ := List.getElem?_of_mem he
    have z4 : (es.map fun e => He.fnObs K (e.x, none))[i]? = (es.map fun e => e.d.val)[i]? := by rw [s2]
    rw [List.getElem?_map, List.getElem?_map, hi] at z4
    obtain ⟨oc, od, osl, kV, doc, pm, an, cdv, ct, q1, q2⟩ := He.fn_ok (d := e.d) (Option.some.inj z4) z3
    exact ⟨_, _, He.glo_ok KX gl z1, He.keep_ok z2, oc, od, osl, kV, doc, pm, an, cdv, ct, rfl, q1, q2⟩
  · have z := List.all_eq_true.mp f2 p hp
    unfold conB at z
    split at z
    · rename_i u e
      obtain ⟨v, q1, q2⟩ := chkV_ok p.2 z
      exact ⟨u, v, PySem.W.mg_of KX gl e, q1, q2⟩
    · cases z
  · have z := List.all_eq_true.mp f3 x hx
    unfold bltB at z
    rw [hn] at z
    exact He.free_ok KX gl (by simpa using z)
end MP
namespace MP
open PySem L2
/-! ### the calculus: what must hold so that a run ends in Q -/
def W (o : Option (D × Sto)) (Q : D → Sto → Prop) : Prop := ∃ d S, o = some (d, S) ∧ Q d S
def WA (o : Option (List D × Sto)) (Q : List D → Sto → Prop) : Prop := ∃ d S, o = some (d, S) ∧ Q d S
def WO (o : Option (Option Int × Sto)) (Q : Option Int → Sto → Prop) : Prop := ∃ d S, o = some (d, S) ∧ Q d S
def WI (o : Option (List D × Lv × Sto)) (Q : List D → Lv → Sto → Prop) : Prop := ∃ d l S, o = some (d, l, S) ∧ Q d l S
def WS (o : Option (Fl × En × Sto)) (Q : Fl → En → Sto → Prop) : Prop := ∃ f e S, o = some (f, e, S) ∧ Q f e S
def WE (o : Option En) (Q : En → Prop) : Prop := ∃ e, o = some e ∧ Q e
theorem W.imp {o : Option (D × Sto)} {Q Q' : D → Sto → Prop} (h : W o Q) (q : ∀ d S, Q d S → Q' d S) : W o Q' := let ⟨d, S, e, h⟩ := h; ⟨d, S, e, q d S h⟩
theorem WS.imp {o : Option (Fl × En × Sto)} {Q Q' : Fl → En → Sto → Prop} (h : WS o Q) (q : ∀ f e S, Q f e S → Q' f e S) : WS o Q' := let ⟨f, e, S, z, h⟩ := h; ⟨f, e, S, z, q f e S h⟩
theorem W_some {d : D} {S : Sto} {Q : D → Sto → Prop} : W (some (d, S)) Q = Q d S := propext ⟨fun ⟨_, _, e, h⟩ => (by cases e; exact h), fun h => ⟨_, _, rfl, h⟩⟩
theorem WA_some {d : List D} {S : Sto} {Q : List D → Sto → Prop} : WA (some (d, S)) Q = Q d S := propext ⟨fun ⟨_, _, e, h⟩ => (by cases e; exact h), fun h => ⟨_, _, rfl, h⟩⟩
theorem WO_some {d : Option Int} {S : Sto} {Q : Option Int → Sto → Prop} : WO (some (d, S)) Q = Q d S := propext ⟨fun ⟨_, _, e, h⟩ => (by cases e; exact h), fun h => ⟨_, _, rfl, h⟩⟩
theorem WI_some {d : List D} {l : Lv} {S : Sto} {Q : List D → Lv → Sto → Prop} : WI (some (d, l, S)) Q = Q d l S := propext ⟨fun ⟨_, _, _, e, h⟩ => (by cases e; exact h), fun h => ⟨_, _, _, rfl, h⟩⟩
theorem WS_some {d : Fl} {e : En} {S : Sto} {Q : Fl → En → Sto → Prop} : WS (some (d, e, S)) Q = Q d e S := propext ⟨fun ⟨_, _, _, e, h⟩ => (by cases e; exact h), fun h => ⟨_, _, _, rfl, h⟩⟩
theorem WE_some {e : En} {Q : En → Prop} : WE (some e) Q = Q e := propext ⟨fun ⟨_, e, h⟩ => (by cases e; exact h), fun h => ⟨_, rfl, h⟩⟩
theorem W_gI {c : Bool} {d : D} {S : Sto} {Q : D → Sto → Prop} : W (gI c d S) Q = (c = true ∧ Q d S) := propext ⟨fun ⟨_, _, e, h⟩ => (by
  unfold gI at e
  split at e
  · rename_i c
    cases e
    exact ⟨c, h⟩
  · cases e), fun ⟨c, h⟩ => ⟨_, _, if_pos c, h⟩⟩
theorem W_newL {ds : List D} {S : Sto} {Q : D → Sto → Prop} : W (newL ds S) Q = (ds.length ≤ sizeLine ∧ Q (.ref S.length) (S ++ [.lst ds])) := propext ⟨fun ⟨_, _, e, h⟩ => (by
  unfold newL at e
  split at e
  · rename_i c
    cases e
    exact ⟨c, h⟩
  · cases e), fun ⟨c, h⟩ => ⟨_, _, if_pos c, h⟩⟩
/-- what a boolean chooses -/
def ch (d : D) (A B : Prop) : Prop := match d with
  | .bl true => A
  | .bl false => B
  | _ => False
theorem ch_bl {b : Bool} {A B : Prop} : ch (.bl b) A B = (if b = true then A else B) := by cases b <;> simp [ch]
def atE (env : En) (i : Nat) (Q : D → Prop) : Prop := match env[i]? with
  | some (some d) => Q d
  | _ => False
theorem at0 {d : D} {r : En} {Q : D → Prop} : atE (some d :: r) 0 Q = Q d := rfl
theorem atS {x : Option D} {r : En} {i : Nat} {Q : D → Prop} : atE (x :: r) (i + 1) Q = atE r i Q := rfl
/-- what follows a statement -/
def nx (f : Fl) (A : Prop) (B : Prop) : Prop := match f with
  | .next => A
  | _ => B
theorem nx_next {A B : Prop} : nx .next A B = A := rfl
theorem nx_ret {d : D} {A B : Prop} : nx (.ret d) A B = B := rfl
theorem nx_brk {A B : Prop} : nx .brk A B = B := rfl
theorem nx_cont {A B : Prop} : nx .cont A B = B := rfl
def rt (f : Fl) (Q : D → Prop) : Prop := match f with
  | .ret d => Q d
  | .next => Q .non
  | _ => False
theorem rt_ret {d : D} {Q : D → Prop} : rt (.ret d) Q = Q d := rfl
theorem rt_next {Q : D → Prop} : rt .next Q = Q .non := rfl
section
variable {cl : Nat → ON} {env : En} {S : Sto} {Q : D → Sto → Prop} {QA : List D → Sto → Prop} {QS : Fl → En → Sto → Prop} {QI : List D → Lv → Sto → Prop}
theorem we_c {d : D} : W (ev cl (.c d) env S) Q = Q d S := by simp only [ev]; exact W_some
theorem we_var {i : Nat} : W (ev cl (.var i) env S) Q = atE env i fun d => Q d S := by
  simp only [ev]
  unfold fVar atE
  cases env[i]? with
  | none => exact propext ⟨fun ⟨_, _, e, _⟩ => (by cases e), fun h => h.elim⟩
  | some o => cases o with
    | none => exact propext ⟨fun ⟨_, _, e, _⟩ => (by cases e), fun h => h.elim⟩
    | some d => exact W_some
theorem W_bind {α : Type} {o : Option (D × Sto)} {g : D → Sto → Option (α × Sto)} {P : Option (α × Sto) → Prop} (hn : ¬ P none) : P (match o with
    | some (d, S1) => g d S1
    | none => none) = W o fun d S1 => P (g d S1) := by
  cases o with
  | none => exact propext ⟨fun h => (hn h).elim, fun ⟨_, _, e, _⟩ => (by cases e)⟩
  | some p => exact (W_some (Q := fun d S1 => P (g d S1))).symm
theorem W_none {Q : D → Sto → Prop} : ¬ W none Q := fun ⟨_, _, e, _⟩ => by cases e
theorem WA_none {Q : List D → Sto → Prop} : ¬ WA none Q := fun ⟨_, _, e, _⟩ => by cases e
theorem we_f2 {g : O2} {fa fb : FE} : W (f2 g fa fb env S) Q = W (fa env S) fun x S1 => W (fb env S1) fun y S2 => W (g x y S2) Q := by
  unfold f2
  cases fa env S with
  | none => exact propext ⟨fun h => (W_none h).elim, fun h => (W_none h).elim⟩
  | some p =>
    obtain ⟨d, S1⟩ := p
    rw [W_some]
    simp only
    cases fb env S1 with
    | none => exact propext ⟨fun h => (W_none h).elim, fun h => (W_none h).elim⟩
    | some p => rw [W_some]
theorem we_f1 {g : O1} {fa : FE} : W (f1 g fa env S) Q = W (fa env S) fun x S1 => W (g x S1) Q := by
  unfold f1
  cases fa env S with
  | none => exact propext ⟨fun h => (W_none h).elim, fun h => (W_none h).elim⟩
  | some p => rw [W_some]
theorem we_fN {g : ON} {fa : FA} : W (fN g fa env S) Q = WA (fa env S) fun x S1 => W (g x S1) Q := by
  unfold fN
  cases fa env S with
  | none => exact propext ⟨fun h => (W_none h).elim, fun h => (WA_none h).elim⟩
  | some p => rw [WA_some]
theorem we_bin {o : Op2} {a b : E} : W (ev cl (.bin o a b) env S) Q = W (ev cl a env S) fun x S1 => W (ev cl b env S1) fun y S2 => W (o.den x y S2) Q := by simp only [ev, we_f2]
theorem we_cmp {o : CO} {a b : E} : W (ev cl (.cmp o a b) env S) Q = W (ev cl a env S) fun x S1 => W (ev cl b env S1) fun y S2 => W (o.den x y S2) Q := by simp only [ev, we_f2]
theorem we_neg {a : E} : W (ev cl (.neg a) env S) Q = W (ev cl a env S) fun x S1 => W (oNeg x S1) Q := by simp only [ev, we_f1]
def nt (d : D) (Q : D → Prop) : Prop := match d with
  | .bl b => Q (.bl (!b))
  | _ => False
theorem nt_bl {b : Bool} {Q : D → Prop} : nt (.bl b) Q = Q (.bl (!b)) := rfl
theorem we_not {a : E} : W (ev cl (.not a) env S) Q = W (ev cl a env S) fun x S1 => nt x fun d => Q d S1 := by
  simp only [ev]
  unfold fNot
  cases ev cl a env S with
  | none => exact propext ⟨fun h => (W_none h).elim, fun h => (W_none h).elim⟩
  | some p =>
    obtain ⟨d, S1⟩ := p
    rw [W_some]
    cases d <;> first | exact W_some | exact propext ⟨fun h => (W_none h).elim, fun h => h.elim⟩
theorem we_and {a b : E} : W (ev cl (.and a b) env S) Q = W (ev cl a env S) fun x S1 => ch x (W (ev cl b env S1) Q) (Q (.bl false) S1) := by
  simp only [ev]
  unfold fAnd
  cases ev cl a env S with
  | none => exact propext ⟨fun h => (W_none h).elim, fun h => (W_none h).elim⟩
  | some p =>
    obtain ⟨d, S1⟩ := p
    rw [W_some]
    cases d <;> first | exact propext ⟨fun h => (W_none h).elim, fun h => h.elim⟩ | skip
    rename_i b
    cases b
    · exact W_some
    · rfl
theorem we_or {a b : E} : W (ev cl (.or a b) env S) Q = W (ev cl a env S) fun x S1 => ch x (Q (.bl true) S1) (W (ev cl b env S1) Q) := by
  simp only [ev]
  unfold fOr
  cases ev cl a env S with
  | none => exact propext ⟨fun h => (W_none h).elim, fun h => (W_none h).elim⟩
  | some p =>
    obtain ⟨d, S1⟩ := p
    rw [W_some]
    cases d <;> first | exact propext ⟨fun h => (W_none h).elim, fun h => h.elim⟩ | skip
    rename_i b
    cases b
    · rfl
    · exact W_some
theorem we_ite {c a b : E} : W (ev cl (.ite c a b) env S) Q = W (ev cl c env S) fun x S1 => ch x (W (ev cl a env S1) Q) (W (ev cl b env S1) Q) := by
  simp only [ev]
  unfold fIte
  cases ev cl c env S with
  | none => exact propext ⟨fun h => (W_none h).elim, fun h => (W_none h).elim⟩
  | some p =>
    obtain ⟨d, S1⟩ := p
    rw [W_some]
    cases d <;> first | exact propext ⟨fun h => (W_none h).elim, fun h => h.elim⟩ | skip
    rename_i b
    cases b <;> rfl
theorem we_chain {o o' : CO} {a b c : E} : W (ev cl (.chain o o' a b c) env S) Q = W (ev cl a env S) fun x S1 => W (ev cl b env S1) fun y S2 => W (o.den x y S2) fun t S3 => ch t (W (ev cl c env S3) fun z S4 => W (o'.den y z S4) Q) (Q (.bl false) S3) := by
  simp only [ev]
  unfold fChain
  cases ev cl a env S with
  | none => exact propext ⟨fun h => (W_none h).elim, fun h => (W_none h).elim⟩
  | some p =>
    obtain ⟨x, S1⟩ := p
    rw [W_some]
    simp only
    cases ev cl b env S1 with
    | none => exact propext ⟨fun h => (W_none h).elim, fun h => (W_none h).elim⟩
    | some p =>
      obtain ⟨y, S2⟩ := p
      rw [W_some]
      simp only
      cases o.den x y S2 with
      | none => exact propext ⟨fun h => (W_none h).elim, fun h => (W_none h).elim⟩
      | some p =>
        obtain ⟨t, S3⟩ := p
        rw [W_some]
        cases t <;> first | exact propext ⟨fun h => (W_none h).elim, fun h => h.elim⟩ | skip
        rename_i b
        cases b
        · exact W_some
        · simp only [ch]
          cases ev cl c env S3 with
          | none => exact propext ⟨fun h => (W_none h).elim, fun h => (W_none h).elim⟩
          | some p => rw [W_some]
theorem wa_nil : WA (evs cl .nil env S) QA = QA [] S := by simp only [evs]; exact WA_some
theorem wa_cons {a : E} {r : Es} : WA (evs cl (.cons a r) env S) QA = W (ev cl a env S) fun d S1 => WA (evs cl r env S1) fun ds S2 => QA (d :: ds) S2 := by
  simp only [evs]
  unfold fCons
  cases ev cl a env S with
  | none => exact propext ⟨fun h => (WA_none h).elim, fun h => (W_none h).elim⟩
  | some p =>
    obtain ⟨d, S1⟩ := p
    rw [W_some]
    simp only
    cases evs cl r env S1 with
    | none => exact propext ⟨fun h => (WA_none h).elim, fun h => (WA_none h).elim⟩
    | some p => rw [WA_some, WA_some]
theorem we_tup {l : Es} : W (ev cl (.tup l) env S) Q = WA (evs cl l env S) fun ds S1 => ds.length ≤ sizeLine ∧ Q (.tup ds) S1 := by
  simp only [ev]
  unfold fTup
  cases evs cl l env S with
  | none => exact propext ⟨fun h => (W_none h).elim, fun h => (WA_none h).elim⟩
  | some p => rw [WA_some]; simp only [W_gI, decide_eq_true_eq]
theorem we_lst {l : Es} : W (ev cl (.lst l) env S) Q = WA (evs cl l env S) fun ds S1 => ds.length ≤ sizeLine ∧ Q (.ref S1.length) (S1 ++ [.lst ds]) := by
  simp only [ev]
  unfold fLst
  cases evs cl l env S with
  | none => exact propext ⟨fun h => (W_none h).elim, fun h => (WA_none h).elim⟩
  | some p => rw [WA_some]; simp only [W_newL]
theorem we_idx {a b : E} : W (ev cl (.idx a b) env S) Q = W (ev cl a env S) fun x S1 => W (ev cl b env S1) fun y S2 => W (oIdx x y S2) Q := by simp only [ev, we_f2]
def wPart (ds : List D) (Q : Option Int → Prop) : Prop := match ds with
  | [] => Q none
  | [.int i] => Q (some i)
  | _ => False
theorem wPart_nil {Q : Option Int → Prop} : wPart [] Q = Q none := rfl
theorem wPart_int {i : Int} {Q : Option Int → Prop} : wPart [.int i] Q = Q (some i) := rfl
theorem WO_none {Q : Option Int → Sto → Prop} : ¬ WO none Q := fun ⟨_, _, e, _⟩ => by cases e
theorem wo_part {fa : FA} {QO : Option Int → Sto → Prop} : WO (partA fa env S) QO = WA (fa env S) fun ds S1 => wPart ds fun o => QO o S1 := by
  unfold partA
  cases fa env S with
  | none => exact propext ⟨fun h => (WO_none h).elim, fun h => (WA_none h).elim⟩
  | some p =>
    obtain ⟨ds, S1⟩ := p
    rw [WA_some]
    match ds with
    | [] => exact WO_some
    | [.int i] => exact WO_some
    | [.non] => exact propext ⟨fun h => (WO_none h).elim, fun h => h.elim⟩
    | [.bl _] => exact propext ⟨fun h => (WO_none h).elim, fun h => h.elim⟩
    | [.str _] => exact propext ⟨fun h => (WO_none h).elim, fun h => h.elim⟩
    | [.tup _] => exact propext ⟨fun h => (WO_none h).elim, fun h => h.elim⟩
    | [.ref _] => exact propext ⟨fun h => (WO_none h).elim, fun h => h.elim⟩
    | a :: b :: r => cases a <;> exact propext ⟨fun h => (WO_none h).elim, fun h => h.elim⟩
theorem we_sl {a : E} {lo hi : Es} : W (ev cl (.sl a lo hi) env S) Q = W (ev cl a env S) fun x S1 => WA (evs cl lo env S1) fun l S2 => wPart l fun l => WA (evs cl hi env S2) fun h S3 => wPart h fun h => W (oSl x l h S3) Q := by
  simp only [ev]
  unfold fSl
  cases ev cl a env S with
  | none => exact propext ⟨fun h => (W_none h).elim, fun h => (W_none h).elim⟩
  | some p =>
    obtain ⟨x, S1⟩ := p
    rw [W_some]
    simp only
    rw [← wo_part (QO := fun l S2 => WA (evs cl hi env S2) fun h S3 => wPart h fun h => W (oSl x l h S3) Q)]
    cases partA (evs cl lo) env S1 with
    | none => exact propext ⟨fun h => (W_none h).elim, fun h => (WO_none h).elim⟩
    | some p =>
      obtain ⟨l, S2⟩ := p
      rw [WO_some]
      simp only
      rw [← wo_part (QO := fun h S3 => W (oSl x l h S3) Q)]
      cases partA (evs cl hi) env S2 with
      | none => exact propext ⟨fun h => (W_none h).elim, fun h => (WO_none h).elim⟩
      | some p => rw [WO_some]
theorem we_blt {b : Bn} {l : Es} : W (ev cl (.blt b l) env S) Q = WA (evs cl l env S) fun x S1 => W (b.den x S1) Q := by simp only [ev, we_fN]
theorem we_call {f : Nat} {l : Es} : W (ev cl (.call f l) env S) Q = WA (evs cl l env S) fun x S1 => W (cl f x S1) Q := by simp only [ev, we_fN]
def wPerm (o : Option (List D)) (Q : List D → Prop) : Prop := match o with
  | some l => Q l
  | none => False
theorem wPerm_some {l : List D} {Q : List D → Prop} : wPerm (some l) Q = Q l := rfl
theorem we_callK {f : Nat} {pm : List Nat} {l : Es} : W (ev cl (.callK f pm l) env S) Q = WA (evs cl l env S) fun x S1 => wPerm (permD pm x) fun y => W (cl f y S1) Q := by
  simp only [ev]
  unfold fN fPerm
  cases evs cl l env S with
  | none => exact propext ⟨fun h => (W_none h).elim, fun h => (WA_none h).elim⟩
  | some p =>
    obtain ⟨x, S1⟩ := p
    rw [WA_some]
    simp only
    cases permD pm x with
    | none => exact propext ⟨fun h => (W_none h).elim, fun h => h.elim⟩
    | some y => rfl
def wRef (d : D) (Q : Nat → Prop) : Prop := match d with
  | .ref n => Q n
  | _ => False
theorem wRef_ref {n : Nat} {Q : Nat → Prop} : wRef (.ref n) Q = Q n := rfl
theorem we_meth {m : Mt} {o a : E} : W (ev cl (.meth m o a) env S) Q = W (ev cl o env S) fun x S1 => wRef x fun n => (itemsAt S1 n).isSome = true ∧ W (ev cl a env S1) fun y S2 => W (m.den (.ref n) y S2) Q := by
  simp only [ev]
  unfold fM
  cases ev cl o env S with
  | none => exact propext ⟨fun h => (W_none h).elim, fun h => (W_none h).elim⟩
  | some p =>
    obtain ⟨x, S1⟩ := p
    rw [W_some]
    cases x <;> first | exact propext ⟨fun h => (W_none h).elim, fun h => h.elim⟩ | skip
    rename_i n
    simp only [wRef]
    cases itemsAt S1 n with
    | none => exact propext ⟨fun h => (W_none h).elim, fun h => (by cases h.1)⟩
    | some l =>
      simp only [Option.isSome_some, true_and]
      cases ev cl a env S1 with
      | none => exact propext ⟨fun h => (W_none h).elim, fun h => (W_none h).elim⟩
      | some p => rw [W_some]
theorem we_dict : W (ev cl .dict0 env S) Q = Q (.ref S.length) (S ++ [.dct]) := by simp only [ev]; exact W_some
theorem WI_none {Q : List D → Lv → Sto → Prop} : ¬ WI none Q := fun ⟨_, _, _, e, _⟩ => by cases e
theorem we_lc {s : Sr} {l : Es} {t : Tn} {c e : E} {own : List Nat} : W (ev cl (.lc s l t c e own) env S) Q = WI (srcD s (evs cl l) env S) fun ds lv S1 => ∃ S2, lcD S1.length t (ev cl c) (ev cl e) lv (wipeE env own) ds (S1 ++ [.lst []]) = some S2 ∧ Q (.ref S1.length) S2 := by
  simp only [ev]
  unfold fLc
  cases srcD s (evs cl l) env S with
  | none => exact propext ⟨fun h => (W_none h).elim, fun h => (WI_none h).elim⟩
  | some p =>
    obtain ⟨ds, lv, S1⟩ := p
    rw [WI_some]
    simp only
    cases lcD S1.length t (ev cl c) (ev cl e) lv (wipeE env own) ds (S1 ++ [.lst []]) with
    | none => exact propext ⟨fun h => (W_none h).elim, fun ⟨_, e, _⟩ => (by cases e)⟩
    | some S2 => exact propext ⟨fun ⟨_, _, e, h⟩ => (by cases e; exact ⟨_, rfl, h⟩), fun ⟨_, e, h⟩ => (by cases e; exact ⟨_, _, rfl, h⟩)⟩
/-! sources -/
def wHd (ds : List D) (Q : D → Prop) : Prop := match ds with
  | [d] => Q d
  | _ => False
theorem wHd_one {d : D} {Q : D → Prop} : wHd [d] Q = Q d := rfl
def wSeq (S : Sto) (d : D) (Q : List D → Lv → Prop) : Prop := match d with
  | .str s => Q (s.cps.toList.map fun c => D.str ⟨#[c]⟩) []
  | .tup l => Q l []
  | .ref n => ∃ l, itemsAt S n = some l ∧ Q l [(n, l)]
  | _ => False
theorem wSeq_str {s : Str} {Q : List D → Lv → Prop} : wSeq S (.str s) Q = Q (s.cps.toList.map fun c => D.str ⟨#[c]⟩) [] := rfl
theorem wSeq_tup {l : List D} {Q : List D → Lv → Prop} : wSeq S (.tup l) Q = Q l [] := rfl
theorem wSeq_ref {n : Nat} {Q : List D → Lv → Prop} : wSeq S (.ref n) Q = ∃ l, itemsAt S n = some l ∧ Q l [(n, l)] := rfl
theorem wi_seq {fa : FA} : WI (srcD .seq fa env S) QI = WA (fa env S) fun ds S1 => wHd ds fun d => wSeq S1 d fun l lv => QI l lv S1 := by
  show WI (iSeq (hd fa) env S) QI = _
  unfold iSeq hd
  cases fa env S with
  | none => exact propext ⟨fun h => (WI_none h).elim, fun h => (WA_none h).elim⟩
  | some p =>
    obtain ⟨ds, S1⟩ := p
    rw [WA_some]
    match ds with
    | [] => exact propext ⟨fun h => (WI_none h).elim, fun h => h.elim⟩
    | a :: b :: r => exact propext ⟨fun h => (WI_none h).elim, fun h => h.elim⟩
    | [d] =>
      simp only [wHd_one]
      cases d <;> first | exact WI_some | exact propext ⟨fun h => (WI_none h).elim, fun h => h.elim⟩ | skip
      rename_i n
      simp only [wSeq]
      cases itemsAt S1 n with
      | none => exact propext ⟨fun h => (WI_none h).elim, fun ⟨_, e, _⟩ => (by cases e)⟩
      | some l => rw [WI_some]; exact propext ⟨fun h => ⟨_, rfl, h⟩, fun ⟨_, e, h⟩ => (by cases e; exact h)⟩
def wRng (ds : List D) (Q : List D → Prop) : Prop := match ds with
  | [.int j] => (-(2 ^ 62) ≤ j ∧ j < 2 ^ 62) ∧ Q (upTo 0 j.toNat)
  | [.int i, .int j] => (-(2 ^ 62) ≤ i ∧ i < 2 ^ 62 ∧ -(2 ^ 62) ≤ j ∧ j < 2 ^ 62) ∧ Q (upTo i (j - i).toNat)
  | _ => False
theorem wRng_1 {j : Int} {Q : List D → Prop} : wRng [.int j] Q = ((-(2 ^ 62) ≤ j ∧ j < 2 ^ 62) ∧ Q (upTo 0 j.toNat)) := rfl
theorem wRng_2 {i j : Int} {Q : List D → Prop} : wRng [.int i, .int j] Q = ((-(2 ^ 62) ≤ i ∧ i < 2 ^ 62 ∧ -(2 ^ 62) ≤ j ∧ j < 2 ^ 62) ∧ Q (upTo i (j - i).toNat)) := rfl
theorem wi_rng {fa : FA} (h : WA (fa env S) fun ds S1 => wRng ds fun l => QI l [] S1) : WI (srcD .rng fa env S) QI := by
  obtain ⟨ds, S1, e, h⟩ := h
  show WI (iRange fa env S) QI
  unfold iRange
  rw [e]
  unfold wRng at h
  split at h
  · rename_i j
    simp only
    rw [if_pos h.1, WI_some]
    exact h.2
  · rename_i i j
    simp only
    rw [if_pos h.1, WI_some]
    exact h.2
  · exact h.elim
def wLv (S : Sto) (d : D) (Q : List D → Lv → Prop) : Prop := match seqLv S d with
  | some (l, lv) => Q l lv
  | none => False
theorem wLv_tup {l : List D} {Q : List D → Lv → Prop} : wLv S (.tup l) Q = Q l [] := rfl
theorem wLv_ref {n : Nat} {Q : List D → Lv → Prop} : wLv S (.ref n) Q = ∃ l, itemsAt S n = some l ∧ Q l [(n, l)] := by
  unfold wLv
  have z : seqLv S (.ref n) = (match itemsAt S n with
    | some l => some (l, [(n, l)])
    | none => none) := rfl
  rw [z]
  cases itemsAt S n with
  | none => exact propext ⟨fun h => False.elim h, fun ⟨_, e, _⟩ => (by cases e)⟩
  | some l => exact propext ⟨fun h => ⟨_, rfl, h⟩, fun ⟨_, e, h⟩ => (by cases e; exact h)⟩
def wZip (S : Sto) (ds : List D) (Q : List D → Lv → Prop) : Prop := match ds with
  | [x, y] => wLv S x fun l lv => wLv S y fun m mv => Q (zipD2 l m) (lv ++ mv)
  | [x, y, z] => wLv S x fun l lv => wLv S y fun m mv => wLv S z fun k kv => Q (zipD3 l m k) (lv ++ mv ++ kv)
  | _ => False
theorem wZip_2 {x y : D} {Q : List D → Lv → Prop} : wZip S [x, y] Q = wLv S x fun l lv => wLv S y fun m mv => Q (zipD2 l m) (lv ++ mv) := rfl
theorem wZip_3 {x y z : D} {Q : List D → Lv → Prop} : wZip S [x, y, z] Q = wLv S x fun l lv => wLv S y fun m mv => wLv S z fun k kv => Q (zipD3 l m k) (lv ++ mv ++ kv) := rfl
theorem wi_zip {fa : FA} (h : WA (fa env S) fun ds S1 => wZip S1 ds fun l lv => QI l lv S1) : WI (srcD .zip fa env S) QI := by
  obtain ⟨ds, S1, e, h⟩ := h
  show WI (iZipD fa env S) QI
  unfold iZipD
  rw [e]
  unfold wZip at h
  split at h
  · rename_i x y
    unfold wLv at h
    split at h
    · rename_i l lv e1
      split at h
      · rename_i m mv e2
        simp only [e1, e2, WI_some]
        exact h
      · exact h.elim
    · exact h.elim
  · rename_i x y z
    unfold wLv at h
    split at h
    · rename_i l lv e1
      split at h
      · rename_i m mv e2
        split at h
        · rename_i k kv e3
          simp only [e1, e2, e3, WI_some]
          exact h
        · exact h.elim
      · exact h.elim
    · exact h.elim
  · exact h.elim
theorem wi_enm {fa : FA} (h : WA (fa env S) fun ds S1 => wHd ds fun d => wLv S1 d fun l lv => QI (enumD 0 l) lv S1) : WI (srcD .enm fa env S) QI := by
  obtain ⟨ds, S1, e, h⟩ := h
  show WI (iEnumD fa env S) QI
  unfold iEnumD
  rw [e]
  unfold wHd at h
  split at h
  · rename_i d
    unfold wLv at h
    split at h
    · rename_i l lv e1
      simp only [e1, WI_some]
      exact h
    · exact h.elim
  · exact h.elim
/-! statements -/
theorem WS_none {Q : Fl → En → Sto → Prop} : ¬ WS none Q := fun ⟨_, _, _, e, _⟩ => by cases e
theorem ws_nil : WS (ss cl .nil env S) QS = QS .next env S := by simp only [ss]; exact WS_some
theorem ws_cons {a : Sm} {r : Ss} : WS (ss cl (.cons a r) env S) QS = WS (sm cl a env S) fun f e S1 => nx f (WS (ss cl r e S1) QS) (QS f e S1) := by
  simp only [ss]
  unfold sSeq
  cases sm cl a env S with
  | none => exact propext ⟨fun h => (WS_none h).elim, fun h => (WS_none h).elim⟩
  | some p =>
    obtain ⟨f, e, S1⟩ := p
    rw [WS_some]
    cases f <;> first | rfl | exact WS_some
theorem ws_ret {e : E} : WS (sm cl (.ret e) env S) QS = W (ev cl e env S) fun d S1 => QS (.ret d) env S1 := by
  simp only [sm]
  unfold sRet
  cases ev cl e env S with
  | none => exact propext ⟨fun h => (WS_none h).elim, fun h => (W_none h).elim⟩
  | some p => rw [W_some]; exact WS_some
theorem ws_ex {e : E} : WS (sm cl (.ex e) env S) QS = W (ev cl e env S) fun d S1 => QS .next env S1 := by
  simp only [sm]
  unfold sExpr
  cases ev cl e env S with
  | none => exact propext ⟨fun h => (WS_none h).elim, fun h => (W_none h).elim⟩
  | some p => rw [W_some]; exact WS_some
theorem ws_pass : WS (sm cl .pass env S) QS = QS .next env S := by simp only [sm]; exact WS_some
theorem ws_brk : WS (sm cl .brk env S) QS = QS .brk env S := by simp only [sm]; exact WS_some
theorem ws_cont : WS (sm cl .cont env S) QS = QS .cont env S := by simp only [sm]; exact WS_some
theorem ws_cond {c : E} {a b : Ss} : WS (sm cl (.cond c a b) env S) QS = W (ev cl c env S) fun x S1 => ch x (WS (ss cl a env S1) QS) (WS (ss cl b env S1) QS) := by
  simp only [sm]
  unfold sIf
  cases ev cl c env S with
  | none => exact propext ⟨fun h => (WS_none h).elim, fun h => (W_none h).elim⟩
  | some p =>
    obtain ⟨d, S1⟩ := p
    rw [W_some]
    cases d <;> first | exact propext ⟨fun h => (WS_none h).elim, fun h => h.elim⟩ | skip
    rename_i b
    cases b <;> rfl
theorem WE_none {Q : En → Prop} : ¬ WE none Q := fun ⟨_, e, _⟩ => by cases e
theorem ws_asg {t : Tn} {e : E} : WS (sm cl (.asg t e) env S) QS = W (ev cl e env S) fun d S1 => WE (t.asg d env) fun e1 => QS .next e1 S1 := by
  simp only [sm]
  unfold sAsg
  cases ev cl e env S with
  | none => exact propext ⟨fun h => (WS_none h).elim, fun h => (W_none h).elim⟩
  | some p =>
    obtain ⟨d, S1⟩ := p
    rw [W_some]
    simp only
    cases t.asg d env with
    | none => exact propext ⟨fun h => (WS_none h).elim, fun h => (WE_none h).elim⟩
    | some e1 => rw [WE_some]; exact WS_some
theorem we_nm {i : Nat} {d : D} {Q : En → Prop} : WE ((Tn.nm i).asg d env) Q = Q (env.set i (some d)) := by simp only [Tn.asg]; exact WE_some
theorem we_tu {l : List Tn} {ds : List D} {Q : En → Prop} : WE ((Tn.tu l).asg (.tup ds) env) Q = WE (Tn.asgs l ds env) Q := by simp only [Tn.asg]
theorem we_ts0 {Q : En → Prop} : WE (Tn.asgs [] [] env) Q = Q env := by simp only [Tn.asgs]; exact WE_some
theorem we_ts1 {t : Tn} {ts : List Tn} {d : D} {ds : List D} {Q : En → Prop} : WE (Tn.asgs (t :: ts) (d :: ds) env) Q = WE (t.asg d env) fun e1 => WE (Tn.asgs ts ds e1) Q := by
  simp only [Tn.asgs]
  cases t.asg d env with
  | none => exact propext ⟨fun h => (WE_none h).elim, fun h => (WE_none h).elim⟩
  | some e1 => rw [WE_some]
theorem ws_sub {o i e : E} : WS (sm cl (.sub o i e) env S) QS = W (ev cl e env S) fun d S1 => W (ev cl o env S1) fun x S2 => W (ev cl i env S2) fun j S3 => ∃ S4, putD x j d S3 = some S4 ∧ QS .next env S4 := by
  simp only [sm]
  unfold sSub
  cases ev cl e env S with
  | none => exact propext ⟨fun h => (WS_none h).elim, fun h => (W_none h).elim⟩
  | some p =>
    obtain ⟨d, S1⟩ := p
    rw [W_some]
    simp only
    cases ev cl o env S1 with
    | none => exact propext ⟨fun h => (WS_none h).elim, fun h => (W_none h).elim⟩
    | some p =>
      obtain ⟨x, S2⟩ := p
      rw [W_some]
      simp only
      cases ev cl i env S2 with
      | none => exact propext ⟨fun h => (WS_none h).elim, fun h => (W_none h).elim⟩
      | some p =>
        obtain ⟨j, S3⟩ := p
        rw [W_some]
        simp only
        cases putD x j d S3 with
        | none => exact propext ⟨fun h => (WS_none h).elim, fun ⟨_, e, _⟩ => (by cases e)⟩
        | some S4 => rw [WS_some]; exact propext ⟨fun h => ⟨_, rfl, h⟩, fun ⟨_, e, h⟩ => (by cases e; exact h)⟩
def wPair (d : D) (Q : D → D → Prop) : Prop := match d with
  | .tup [x, y] => Q x y
  | _ => False
theorem wPair_2 {x y : D} {Q : D → D → Prop} : wPair (.tup [x, y]) Q = Q x y := rfl
theorem ws_subv {o i e : E} {v : Nat} (h : W (ev cl e env S) fun d S1 => wPair d fun d c => W (ev cl o env S1) fun x S2 => W (ev cl i env S2) fun j S3 => ∃ S4, putD x j d S3 = some S4 ∧ QS .next (env.set v (some c)) S4) : WS (sm cl (.subv o i v e) env S) QS := by
  simp only [sm]
  unfold sSubV
  obtain ⟨d, S1, e1, h⟩ := h
  rw [e1]
  unfold wPair at h
  split at h
  · rename_i d c
    obtain ⟨x, S2, e2, h⟩ := h
    obtain ⟨j, S3, e3, h⟩ := h
    obtain ⟨S4, e4, h⟩ := h
    simp only [e2, e3, e4, WS_some]
    exact h
  · exact h.elim
theorem ws_loop {s : Sr} {l : Es} {t : Tn} {b : Ss} : WS (sm cl (.loop s l t b) env S) QS = WI (srcD s (evs cl l) env S) fun ds lv S1 => WS (forD t (ss cl b) lv ds env S1) QS := by
  simp only [sm]
  unfold sFor
  cases srcD s (evs cl l) env S with
  | none => exact propext ⟨fun h => (WS_none h).elim, fun h => (WI_none h).elim⟩
  | some p => rw [WI_some]
end
/-- a call, entered -/
theorem w_enter {P : List Fn} {k i : Nat} {fn : Fn} {ds : List D} {S : Sto} {Q : D → Sto → Prop} (hP : P[i]? = some fn) (hl : ds.length = fn.np) (h : WS (ss (callF P k) fn.body (ds.map some ++ List.replicate (fn.nl - fn.np) none) S) fun f _ S1 => rt f fun d => Q d S1) : W (callF P (k + 1) i ds S) Q := by
  obtain ⟨f, e, S1, z, h⟩ := h
  have ec : callF P (k + 1) i ds S = runF (callF P k) fn ds S := by
    show (match P[i]? with
      | some fn => runF (callF P k) fn ds S
      | none => none) = _
    rw [hP]
  rw [ec]
  unfold runF
  rw [if_pos hl, z]
  cases f <;> first | exact h.elim | exact ⟨_, _, rfl, h⟩
/-! loops -/
theorem for_inv {t : Tn} {f : FS} {lv : Lv} {Q : Fl → En → Sto → Prop} {ds : List D} (I : Nat → En → Sto → Prop) {env : En} {S : Sto} (h0 : I 0 env S) (hl : ∀ i env S, I i env S → Live lv S)
    (hs : ∀ i d env S, ds[i]? = some d → I i env S → WE (t.asg d env) fun e1 => WS (f e1 S) fun fl e2 S2 => match fl with
      | .next => I (i + 1) e2 S2
      | .cont => I (i + 1) e2 S2
      | .brk => Q .next e2 S2
      | .ret r => Q (.ret r) e2 S2) (hq : ∀ env S, I ds.length env S → Q .next env S) : WS (forD t f lv ds env S) Q := by
  have go : ∀ (n i : Nat) (env : En) (S : Sto), i + n = ds.length → I i env S → WS (forD t f lv (ds.drop i) env S) Q := by
    intro n
    induction n with
    | zero =>
      intro i env S e h
      have e' : i = ds.length := by omega
      subst e'
      rw [List.drop_length]
      simp only [forD]
      rw [if_pos (hl _ _ _ h), WS_some]
      exact hq _ _ h
    | succ n ih =>
      intro i env S e h
      have hlt : i < ds.length := by omega
      rw [List.drop_eq_getElem_cons hlt]
      simp only [forD]
      rw [if_pos (hl _ _ _ h)]
      obtain ⟨e1, z1, fl, e2, S2, z2, h2⟩ := hs i ds[i] env S (List.getElem?_eq_getElem hlt) h
      rw [z1]
      simp only
      rw [z2]
      cases fl <;> simp only [turnD] <;> first | exact ih _ _ _ (by omega) h2 | exact (by rw [WS_some]; exact h2)
  simpa using go ds.length 0 env S (by omega) h0
/-- a comprehension: acc, what stands in the new list -/
theorem lc_inv {n : Nat} {t : Tn} {fc fe : FE} {lv : Lv} {e0 : En} {ds : List D} {Q : Sto → Prop} (I : Nat → List D → Sto → Prop) {S : Sto} (h0 : I 0 [] S) (hn : ∀ i acc S, I i acc S → S[n]? = some (.lst acc) ∧ Live lv S)
    (hs : ∀ i d acc S, ds[i]? = some d → I i acc S → WE (t.asg d e0) fun e1 => W (fc e1 S) fun x S1 => ch x (W (fe e1 S1) fun y S2 => S2[n]? = some (.lst acc) ∧ acc.length < sizeLine ∧ I (i + 1) (acc ++ [y]) (S2.set n (.lst (acc ++ [y])))) (I (i + 1) acc S1))
    (hq : ∀ acc S, I ds.length acc S → Q S) : ∃ S2, lcD n t fc fe lv e0 ds S = some S2 ∧ Q S2 := by
  have go : ∀ (m i : Nat) (acc : List D) (S : Sto), i + m = ds.length → I i acc S → ∃ S2, lcD n t fc fe lv e0 (ds.drop i) S = some S2 ∧ Q S2 := by
    intro m
    induction m with
    | zero =>
      intro i acc S e h
      have e' : i = ds.length := by omega
      subst e'
      rw [List.drop_length]
      simp only [lcD]
      rw [if_pos (hn _ _ _ h).2]
      exact ⟨_, rfl, hq _ _ h⟩
    | succ m ih =>
      intro i acc S e h
      have hlt : i < ds.length := by omega
      rw [List.drop_eq_getElem_cons hlt]
      simp only [lcD]
      rw [if_pos (hn _ _ _ h).2]
      obtain ⟨e1, z1, x, S1, z2, h2⟩ := hs i ds[i] acc S (List.getElem?_eq_getElem hlt) h
      rw [z1]
      simp only
      rw [z2]
      unfold ch at h2
      split at h2
      · obtain ⟨y, S2, z3, z4, z5, h3⟩ := h2
        simp only
        rw [z3]
        simp only
        rw [z4]
        simp only
        rw [if_pos z5]
        exact ih _ _ _ (by omega) h3
      · exact ih _ _ _ (by omega) h2
      · exact h2.elim
  simpa using go ds.length 0 [] S (by omega) h0
end MP
namespace MP
open PySem L2
/-! ### the operations, at what they stand for -/
section
variable {S : Sto} {Q : D → Sto → Prop} {i j : Int}
theorem w_add : W (Op2.add.den (.int i) (.int j) S) Q = Q (.int (i + j)) S := W_some
theorem w_addT {a b : List D} : W (Op2.add.den (.tup a) (.tup b) S) Q = (a.length + b.length ≤ sizeLine ∧ Q (.tup (a ++ b)) S) := by
  show W (gI _ _ S) Q = _
  rw [W_gI, decide_eq_true_eq]
theorem w_addS {a b : Str} : W (Op2.add.den (.str a) (.str b) S) Q = (a.length + b.length ≤ sizeLine ∧ Q (.str (a ++ b)) S) := by
  show W (gI _ _ S) Q = _
  rw [W_gI, decide_eq_true_eq]
theorem w_sub : W (Op2.sub.den (.int i) (.int j) S) Q = Q (.int (i - j)) S := W_some
theorem w_mul : W (Op2.mul.den (.int i) (.int j) S) Q = (((-(2 ^ 64) < i ∧ i < 2 ^ 64) ∨ (-(2 ^ 64) < j ∧ j < 2 ^ 64)) ∧ Q (.int (i * j)) S) := by
  show W (gI _ _ S) Q = _
  rw [W_gI, decide_eq_true_eq]
theorem w_fdv : W (Op2.fdv.den (.int i) (.int j) S) Q = ((0 < j ∧ j.natAbs < 2 ^ 4096) ∧ Q (.int (i / j)) S) := by
  show W (gI _ _ S) Q = _
  rw [W_gI, decide_eq_true_eq]
theorem w_mod : W (Op2.mod.den (.int i) (.int j) S) Q = (0 < j ∧ Q (.int (i % j)) S) := by
  show W (gI _ _ S) Q = _
  rw [W_gI, decide_eq_true_eq]
theorem w_pow : W (Op2.pow.den (.int i) (.int j) S) Q = ((0 ≤ j ∧ j ≤ 1000000 ∧ i.natAbs < 2 ^ 64) ∧ Q (.int (i ^ j.toNat)) S) := by
  show W (gI _ _ S) Q = _
  rw [W_gI, decide_eq_true_eq]
theorem w_shl : W (Op2.shl.den (.int i) (.int j) S) Q = ((0 ≤ j ∧ j ≤ 1000000 ∧ i.natAbs < 2 ^ 4096) ∧ Q (.int (i * 2 ^ j.toNat)) S) := by
  show W (gI _ _ S) Q = _
  rw [W_gI, decide_eq_true_eq]
theorem w_shr : W (Op2.shr.den (.int i) (.int j) S) Q = (0 ≤ j ∧ Q (.int (i / 2 ^ j.toNat)) S) := by
  show W (gI _ _ S) Q = _
  rw [W_gI, decide_eq_true_eq]
theorem w_band : W (Op2.band.den (.int i) (.int j) S) Q = Q (.int (Builtin.bitAnd i j)) S := W_some
theorem w_bor : W (Op2.bor.den (.int i) (.int j) S) Q = Q (.int (Builtin.bitOr i j)) S := W_some
theorem w_bxor : W (Op2.bxor.den (.int i) (.int j) S) Q = Q (.int (Builtin.bitXor i j)) S := W_some
theorem w_lt : W (CO.lt.den (.int i) (.int j) S) Q = Q (.bl (decide (i < j))) S := W_some
theorem w_le : W (CO.le.den (.int i) (.int j) S) Q = Q (.bl (decide (i ≤ j))) S := W_some
theorem w_gt : W (CO.gt.den (.int i) (.int j) S) Q = Q (.bl (decide (j < i))) S := W_some
theorem w_ge : W (CO.ge.den (.int i) (.int j) S) Q = Q (.bl (decide (j ≤ i))) S := W_some
theorem w_eqI : W (CO.eq.den (.int i) (.int j) S) Q = Q (.bl (decide (i = j))) S := W_some
theorem w_eqS {a b : Str} : W (CO.eq.den (.str a) (.str b) S) Q = Q (.bl (decide (a = b))) S := W_some
theorem w_neI : W (CO.ne.den (.int i) (.int j) S) Q = Q (.bl (!decide (i = j))) S := W_some
theorem w_neS {a b : Str} : W (CO.ne.den (.str a) (.str b) S) Q = Q (.bl (!decide (a = b))) S := W_some
theorem w_eq {x y : D} {b : Bool} (h : eqD S x y = some b) : W (CO.eq.den x y S) Q = Q (.bl b) S := by
  show W (oEq x y S) Q = _
  unfold oEq
  rw [h]
  exact W_some
theorem w_ne {x y : D} {b : Bool} (h : eqD S x y = some b) : W (CO.ne.den x y S) Q = Q (.bl (!b)) S := by
  show W (oNe x y S) Q = _
  unfold oNe
  rw [h]
  exact W_some
theorem w_isN : W (CO.is.den .non .non S) Q = Q (.bl true) S := W_some
theorem w_isI : W (CO.is.den (.int i) .non S) Q = Q (.bl false) S := W_some
theorem w_isinS {c : Nat} {z : Str} : W (CO.isin.den (.str ⟨#[c]⟩) (.str z) S) Q = Q (.bl (decide (c ∈ z.cps.toList))) S := by
  exact W_some
theorem w_isin {x y : D} {b : Bool} (h : inB S x y = some b) : W (CO.isin.den x y S) Q = Q (.bl b) S := by
  show W (oIn x y S) Q = _
  unfold oIn
  rw [h]
  exact W_some
theorem w_idxT {l : List D} : W (oIdx (.tup l) (.int i) S) Q = ∃ d, atI l i = some d ∧ Q d S := by
  have z : oIdx (.tup l) (.int i) S = (match atI l i with
    | some d => some (d, S)
    | none => none) := rfl
  rw [z]
  generalize atI l i = o
  cases o with
  | none => exact propext ⟨fun h => (W_none h).elim, fun ⟨_, e, _⟩ => (by cases e)⟩
  | some d => rw [W_some]; exact propext ⟨fun h => ⟨_, rfl, h⟩, fun ⟨_, e, h⟩ => (by cases e; exact h)⟩
theorem w_idxR {n : Nat} : W (oIdx (.ref n) (.int i) S) Q = ∃ l, itemsAt S n = some l ∧ ∃ d, atI l i = some d ∧ Q d S := by
  have z : oIdx (.ref n) (.int i) S = (match itemsAt S n with
    | some l => (match atI l i with
      | some d => some (d, S)
      | none => none)
    | none => none) := rfl
  rw [z]
  cases itemsAt S n with
  | none => exact propext ⟨fun h => (W_none h).elim, fun ⟨_, e, _⟩ => (by cases e)⟩
  | some l =>
    refine Eq.trans (b := ∃ d, atI l i = some d ∧ Q d S) ?_ (propext ⟨fun h => ⟨_, rfl, h⟩, fun ⟨_, e, h⟩ => (by cases e; exact h)⟩)
    simp only
    generalize atI l i = o
    cases o with
    | none => exact propext ⟨fun h => (W_none h).elim, fun ⟨_, e, _⟩ => (by cases e)⟩
    | some d => rw [W_some]; exact propext ⟨fun h => ⟨_, rfl, h⟩, fun ⟨_, e, h⟩ => (by cases e; exact h)⟩
theorem w_slT {l : List D} {lo hi : Option Int} : W (oSl (.tup l) lo hi S) Q = Q (.tup (cutD l lo hi)) S := W_some
theorem w_slR {n : Nat} {lo hi : Option Int} : W (oSl (.ref n) lo hi S) Q = ∃ l, itemsAt S n = some l ∧ (cutD l lo hi).length ≤ sizeLine ∧ Q (.ref S.length) (S ++ [.lst (cutD l lo hi)]) := by
  have z : oSl (.ref n) lo hi S = (match itemsAt S n with
    | some l => newL (cutD l lo hi) S
    | none => none) := rfl
  rw [z]
  cases itemsAt S n with
  | none => exact propext ⟨fun h => (W_none h).elim, fun ⟨_, e, _⟩ => (by cases e)⟩
  | some l => rw [W_newL]; exact propext ⟨fun h => ⟨_, rfl, h⟩, fun ⟨_, e, h⟩ => (by cases e; exact h)⟩
theorem w_neg : W (oNeg (.int i) S) Q = Q (.int (-i)) S := W_some
theorem w_int : W (Bn.int.den [.int i] S) Q = Q (.int i) S := W_some
theorem w_abs : W (Bn.abs.den [.int i] S) Q = Q (.int (if i < 0 then -i else i)) S := W_some
theorem w_lenT {l : List D} : W (Bn.len.den [.tup l] S) Q = Q (.int l.length) S := W_some
theorem w_lenS {s : Str} : W (Bn.len.den [.str s] S) Q = (s.length ≤ sizeLine ∧ Q (.int s.length) S) := by
  show W (gI _ _ S) Q = _
  rw [W_gI, decide_eq_true_eq]
theorem w_lenR {n : Nat} : W (Bn.len.den [.ref n] S) Q = ∃ l, itemsAt S n = some l ∧ Q (.int l.length) S := by
  have z : bLen [.ref n] S = (match itemsAt S n with
    | some l => some (.int l.length, S)
    | none => none) := rfl
  show W (bLen [.ref n] S) Q = _
  rw [z]
  cases itemsAt S n with
  | none => exact propext ⟨fun h => (W_none h).elim, fun ⟨_, e, _⟩ => (by cases e)⟩
  | some l => rw [W_some]; exact propext ⟨fun h => ⟨_, rfl, h⟩, fun ⟨_, e, h⟩ => (by cases e; exact h)⟩
theorem w_divmod : W (Bn.divmod.den [.int i, .int j] S) Q = ((0 < j ∧ j.natAbs < 2 ^ 4096) ∧ Q (.tup [.int (i / j), .int (i % j)]) S) := by
  show W (gI _ _ S) Q = _
  rw [W_gI, decide_eq_true_eq]
theorem w_max : W (Bn.max.den [.int i, .int j] S) Q = Q (.int (if j > i then j else i)) S := W_some
theorem w_min : W (Bn.min.den [.int i, .int j] S) Q = Q (.int (if j < i then j else i)) S := W_some
theorem w_all {n : Nat} {l : List Bool} (h : itemsAt S n = some (l.map D.bl)) : W (Bn.all.den [.ref n] S) Q = Q (.bl (l.all id)) S := by
  have e : boolsOf (l.map D.bl) = some l := by
    clear h
    induction l with
    | nil => rfl
    | cons a r ih => simp only [List.map_cons, boolsOf, ih]
  show W (bAll [.ref n] S) Q = _
  unfold bAll
  simp only [h, e]
  exact W_some
theorem w_sum {n : Nat} {l : List Int} (h : itemsAt S n = some (l.map D.int)) : W (Bn.sum.den [.ref n] S) Q = Q (.int l.sum) S := by
  have e : intsOf (l.map D.int) = some l := by
    clear h
    induction l with
    | nil => rfl
    | cons a r ih => simp only [List.map_cons, intsOf, ih]
  show W (bSum [.ref n] S) Q = _
  unfold bSum
  simp only [h, e]
  exact W_some
theorem w_tupR {n : Nat} : W (Bn.tuple.den [.ref n] S) Q = ∃ l, itemsAt S n = some l ∧ Q (.tup l) S := by
  have z : bTuple [.ref n] S = (match itemsAt S n with
    | some l => some (.tup l, S)
    | none => none) := rfl
  show W (bTuple [.ref n] S) Q = _
  rw [z]
  cases itemsAt S n with
  | none => exact propext ⟨fun h => (W_none h).elim, fun ⟨_, e, _⟩ => (by cases e)⟩
  | some l => rw [W_some]; exact propext ⟨fun h => ⟨_, rfl, h⟩, fun ⟨_, e, h⟩ => (by cases e; exact h)⟩
theorem w_isiN {t : Ty} : W ((Bn.isi t).den [.non] S) Q = Q (.bl (Ty.non.isi t)) S := W_some
theorem w_isiB {t : Ty} {b : Bool} : W ((Bn.isi t).den [.bl b] S) Q = Q (.bl (Ty.bl.isi t)) S := W_some
theorem w_isiI {t : Ty} : W ((Bn.isi t).den [.int i] S) Q = Q (.bl (Ty.int.isi t)) S := W_some
theorem w_isiS {t : Ty} {s : Str} : W ((Bn.isi t).den [.str s] S) Q = Q (.bl (Ty.str.isi t)) S := W_some
theorem w_isiT {t : Ty} {l : List D} : W ((Bn.isi t).den [.tup l] S) Q = Q (.bl (Ty.tup.isi t)) S := W_some
theorem w_app {n : Nat} {y : D} : W (Mt.app.den (.ref n) y S) Q = ∃ l, S[n]? = some (.lst l) ∧ l.length < sizeLine ∧ Q .non (S.set n (.lst (l ++ [y]))) := by
  show W (oApp (.ref n) y S) Q = _
  unfold oApp
  simp only
  cases S[n]? with
  | none => exact propext ⟨fun h => (W_none h).elim, fun ⟨_, e, _⟩ => (by cases e)⟩
  | some c =>
    cases c <;> first | exact propext ⟨fun h => (W_none h).elim, fun ⟨_, e, _⟩ => (by cases e)⟩ | skip
    rename_i l
    simp only
    split
    · rename_i z
      rw [W_some]
      exact propext ⟨fun h => ⟨_, rfl, z, h⟩, fun ⟨_, e, _, h⟩ => (by cases e; exact h)⟩
    · rename_i z
      exact propext ⟨fun h => (W_none h).elim, fun ⟨_, e, q, _⟩ => (by cases e; exact absurd q z)⟩
theorem w_ext {n m : Nat} : W (Mt.ext.den (.ref n) (.ref m) S) Q = ∃ l k, S[n]? = some (.lst l) ∧ S[m]? = some (.lst k) ∧ l.length + k.length ≤ sizeLine ∧ Q .non (S.set n (.lst (l ++ k))) := by
  show W (oExt (.ref n) (.ref m) S) Q = _
  unfold oExt
  simp only
  cases S[n]? with
  | none => exact propext ⟨fun h => (W_none h).elim, fun ⟨_, _, e, _⟩ => (by cases e)⟩
  | some c =>
    cases S[m]? with
    | none => cases c <;> exact propext ⟨fun h => (W_none h).elim, fun ⟨_, _, _, e, _⟩ => (by cases e)⟩
    | some c' =>
      cases c <;> cases c' <;> first | exact propext ⟨fun h => (W_none h).elim, fun ⟨_, _, e, e', _⟩ => (by cases e; cases e')⟩ | exact propext ⟨fun h => (W_none h).elim, fun ⟨_, _, e, e', _⟩ => (by cases e)⟩ | skip
      rename_i l k
      simp only
      split
      · rename_i z
        rw [W_some]
        exact propext ⟨fun h => ⟨_, _, rfl, rfl, z, h⟩, fun ⟨_, _, e, e', _, h⟩ => (by cases e; cases e'; exact h)⟩
      · rename_i z
        exact propext ⟨fun h => (W_none h).elim, fun ⟨_, _, e, e', q, _⟩ => (by cases e; cases e'; exact absurd q z)⟩
end
/-! ### what a store keeps -/
def Gr (X : Nat → Prop) (S S' : Sto) : Prop := S.length ≤ S'.length ∧ ∀ n, n < S.length → ¬ X n → S'[n]? = S[n]?
def No : Nat → Prop := fun _ => False
theorem Gr.refl {X : Nat → Prop} (S : Sto) : Gr X S S := ⟨Nat.le_refl _, fun _ _ _ => rfl⟩
theorem Gr.trans {X : Nat → Prop} {S S1 S2 : Sto} (a : Gr X S S1) (b : Gr X S1 S2) : Gr X S S2 := ⟨Nat.le_trans a.1 b.1, fun n h1 h2 => (b.2 n (Nat.lt_of_lt_of_le h1 a.1) h2).trans (a.2 n h1 h2)⟩
theorem Gr.mono {X Y : Nat → Prop} {S S1 : Sto} (a : Gr X S S1) (h : ∀ n, X n → Y n) : Gr Y S S1 := ⟨a.1, fun n h1 h2 => a.2 n h1 fun z => h2 (h n z)⟩
theorem Gr.no {Y : Nat → Prop} {S S1 : Sto} (a : Gr No S S1) : Gr Y S S1 := a.mono fun _ z => z.elim
theorem Gr.push {X : Nat → Prop} {S S1 : Sto} (a : Gr X S S1) (c : Cell) : Gr X S (S1 ++ [c]) := ⟨by simp; have := a.1; omega, fun n h1 h2 => by rw [List.getElem?_append_left (Nat.lt_of_lt_of_le h1 a.1)]; exact a.2 n h1 h2⟩
theorem Gr.set {X : Nat → Prop} {S S1 : Sto} {m : Nat} (a : Gr X S S1) (h : S.length ≤ m ∨ X m) (c : Cell) : Gr X S (S1.set m c) := ⟨by simp; exact a.1, fun n h1 h2 => by
  rw [List.getElem?_set_ne]
  · exact a.2 n h1 h2
  · intro e
    subst e
    rcases h with h | h
    · omega
    · exact h2 h⟩
theorem Gr.get {X : Nat → Prop} {S S1 : Sto} {n : Nat} {c : Cell} (a : Gr X S S1) (h : S[n]? = some c) (hx : ¬ X n) : S1[n]? = some c := (a.2 n (List.getElem?_eq_some_iff.mp h).1 hx).trans h
theorem lt_of_get {S : Sto} {n : Nat} {c : Cell} (h : S[n]? = some c) : n < S.length := (List.getElem?_eq_some_iff.mp h).1
theorem get_new {S : Sto} {c : Cell} : (S ++ [c])[S.length]? = some c := by simp
theorem get_set {S : Sto} {n : Nat} {c c' : Cell} (h : S[n]? = some c) : (S.set n c')[n]? = some c' := by
  rw [List.getElem?_set_self (lt_of_get h)]
theorem items_lst {S : Sto} {n : Nat} {l : List D} (h : S[n]? = some (.lst l)) : itemsAt S n = some l := by
  unfold itemsAt
  rw [h]
theorem items_fro {S : Sto} {n : Nat} {l : List D} (h : S[n]? = some (.fro l)) : itemsAt S n = some l := by
  unfold itemsAt
  rw [h]
/-- a comprehension over data without effects: the items' images -/
theorem lc_map {X : Nat → Prop} {t : Tn} {fc fe : FE} {e0 : En} {ds : List D} {S : Sto} {Q : Sto → Prop} {lv : Lv} (f : Nat → D → D) (hz : ds.length ≤ sizeLine) (hlv : ∀ S', Gr X (S ++ [.lst []]) S' ∨ Gr X S S' → Live lv S')
    (hX : ∀ n, X n → n < S.length) (hs : ∀ i d S1, ds[i]? = some d → Gr X S S1 → WE (t.asg d e0) fun e1 => W (fc e1 S1) fun x S2 => x = .bl true ∧ W (fe e1 S2) fun y S3 => y = f i d ∧ Gr X S1 S3)
    (hq : ∀ S', S'[S.length]? = some (.lst (ds.mapIdx f)) → Gr X S S' → Q S') : ∃ S2, lcD S.length t fc fe lv e0 ds (S ++ [.lst []]) = some S2 ∧ Q S2 := by
  refine lc_inv (fun i acc S' => acc = (ds.mapIdx f).take i ∧ S'[S.length]? = some (.lst acc) ∧ Gr X S S') ⟨by simp, get_new, (Gr.refl S).push _⟩ (fun i acc S' h => ⟨h.2.1, hlv S' (.inr h.2.2)⟩) (fun i d acc S' hd h => ?_) fun acc S' h => ?_
  · obtain ⟨h1, h2, h3⟩ := h
    obtain ⟨e1, z1, x, S2, z2, hx, y, S3, z3, hy, g⟩ := hs i d S' hd h3
    subst hx hy
    have hi : i < ds.length := (List.getElem?_eq_some_iff.mp hd).1
    have hn : ¬ X S.length := fun z => Nat.lt_irrefl _ (hX _ z)
    have g3 := g.get h2 hn
    refine ⟨e1, z1, _, S2, z2, _, S3, z3, g3, ?_, ?_, get_set g3, (h3.trans g).set (.inl (Nat.le_refl _)) _⟩
    · rw [h1, List.length_take]
      simp
      omega
    · rw [h1, List.take_succ, List.getElem?_mapIdx, hd]
      rfl
  · obtain ⟨h1, h2, h3⟩ := h
    refine hq S' ?_ h3
    rw [h2, h1, List.take_of_length_le (by simp)]
end MP
namespace MP
open PySem L2
/-! ### the rules in one -/
theorem ch_true {A B : Prop} : ch (.bl true) A B = A := rfl
theorem ch_false {A B : Prop} : ch (.bl false) A B = B := rfl
theorem ch_not {b : Bool} {A B : Prop} : ch (.bl (!b)) A B = ch (.bl b) B A := by cases b <;> rfl
theorem ch_dec {p : Prop} [Decidable p] {A B : Prop} : ch (.bl (decide p)) A B = if p then A else B := by
  by_cases h : p
  · rw [decide_eq_true h, if_pos h]
    rfl
  · rw [decide_eq_false h, if_neg h]
    rfl
theorem e_map {d : D} {l : List D} : List.map (some : D → Option D) (d :: l) = some d :: List.map some l := rfl
theorem e_map0 : List.map (some : D → Option D) [] = [] := rfl
theorem e_app {x : Option D} {l m : En} : (x :: l) ++ m = x :: (l ++ m) := rfl
theorem e_app0 {m : En} : [] ++ m = m := rfl
theorem e_len {d : D} {l : List D} : (d :: l).length = l.length + 1 := rfl
theorem e_len0 : ([] : List D).length = 0 := rfl
def mkE : List D → Nat → En
  | d :: ds, n + 1 => some d :: mkE ds n
  | [], n + 1 => none :: mkE [] n
  | _, 0 => []
theorem e_mk1 {d : D} {ds : List D} {n : Nat} : mkE (d :: ds) (n + 1) = some d :: mkE ds n := rfl
theorem e_mk2 {n : Nat} : mkE [] (n + 1) = none :: mkE [] n := rfl
theorem e_mk0 : mkE [] 0 = [] := rfl
theorem mkE_is : ∀ {ds : List D} {n : Nat}, ds.length ≤ n → mkE ds n = ds.map some ++ List.replicate (n - ds.length) none
  | d :: ds, n + 1, h => by
    simp only [mkE, List.map_cons, List.cons_append, List.length_cons, Nat.add_sub_add_right]
    rw [mkE_is (by simpa using h)]
  | [], n + 1, _ => by
    simp only [mkE]
    rw [mkE_is (ds := []) (n := n) (Nat.zero_le _)]
    rfl
  | [], 0, _ => rfl
  | _ :: _, 0, h => by cases h
theorem w_in {P : List Fn} {k i : Nat} {fn : Fn} {ds : List D} {S : Sto} {Q : D → Sto → Prop} (hP : P[i]? = some fn) (hl : ds.length = fn.np) (hn : fn.np ≤ fn.nl) (h : WS (ss (callF P k) fn.body (mkE ds fn.nl) S) fun f _ S1 => rt f fun d => Q d S1) : W (callF P (k + 1) i ds S) Q := by
  refine w_enter hP hl ?_
  rw [mkE_is (by rw [hl]; exact hn), hl] at h
  exact h
theorem ex_l {a : List D} {Q : List D → Prop} : (∃ l, some a = some l ∧ Q l) = Q a := propext ⟨fun ⟨_, e, h⟩ => (by cases e; exact h), fun h => ⟨_, rfl, h⟩⟩
theorem ex_d {a : D} {Q : D → Prop} : (∃ l, some a = some l ∧ Q l) = Q a := propext ⟨fun ⟨_, e, h⟩ => (by cases e; exact h), fun h => ⟨_, rfl, h⟩⟩
theorem ex_s {a : Sto} {Q : Sto → Prop} : (∃ l, some a = some l ∧ Q l) = Q a := propext ⟨fun ⟨_, e, h⟩ => (by cases e; exact h), fun h => ⟨_, rfl, h⟩⟩
theorem ex_c {a : List D} {Q : List D → Prop} : (∃ l, some (Cell.lst a) = some (.lst l) ∧ Q l) = Q a := propext ⟨fun ⟨_, e, h⟩ => (by cases e; exact h), fun h => ⟨_, rfl, h⟩⟩
theorem sz0 : (([] : List D).length ≤ sizeLine) = True := eq_true (show 0 ≤ sizeLine by decide)
theorem sz1 {x0 : D} : (([x0] : List D).length ≤ sizeLine) = True := eq_true (show 1 ≤ sizeLine by decide)
theorem sz2 {x0 x1 : D} : (([x0, x1] : List D).length ≤ sizeLine) = True := eq_true (show 2 ≤ sizeLine by decide)
theorem sz3 {x0 x1 x2 : D} : (([x0, x1, x2] : List D).length ≤ sizeLine) = True := eq_true (show 3 ≤ sizeLine by decide)
theorem sz4 {x0 x1 x2 x3 : D} : (([x0, x1, x2, x3] : List D).length ≤ sizeLine) = True := eq_true (show 4 ≤ sizeLine by decide)
theorem sz5 {x0 x1 x2 x3 x4 : D} : (([x0, x1, x2, x3, x4] : List D).length ≤ sizeLine) = True := eq_true (show 5 ≤ sizeLine by decide)
theorem sz6 {x0 x1 x2 x3 x4 x5 : D} : (([x0, x1, x2, x3, x4, x5] : List D).length ≤ sizeLine) = True := eq_true (show 6 ≤ sizeLine by decide)
theorem sz7 {x0 x1 x2 x3 x4 x5 x6 : D} : (([x0, x1, x2, x3, x4, x5, x6] : List D).length ≤ sizeLine) = True := eq_true (show 7 ≤ sizeLine by decide)
theorem sz8 {x0 x1 x2 x3 x4 x5 x6 x7 : D} : (([x0, x1, x2, x3, x4, x5, x6, x7] : List D).length ≤ sizeLine) = True := eq_true (show 8 ≤ sizeLine by decide)
theorem sz9 {x0 x1 x2 x3 x4 x5 x6 x7 x8 : D} : (([x0, x1, x2, x3, x4, x5, x6, x7, x8] : List D).length ≤ sizeLine) = True := eq_true (show 9 ≤ sizeLine by decide)
theorem t_and {p : Prop} : (True ∧ p) = p := propext ⟨fun h => h.2, fun h => ⟨trivial, h⟩⟩
def wX := And.intro @ex_l <| And.intro @ex_d <| And.intro @ex_s <| And.intro @ex_c <| And.intro @sz0 <| And.intro @sz1 <| And.intro @sz2 <| And.intro @sz3 <| And.intro @sz4 <| And.intro @sz5 <| And.intro @sz6 <| And.intro @sz7 <| And.intro @sz8 <| And.intro @sz9 <| @t_and
theorem e_wip0 {e : En} : wipeE e [] = e := rfl
theorem e_wip {e : En} {v : Nat} {l : List Nat} : wipeE e (v :: l) = (wipeE e l).set v none := rfl
def wR := And.intro @W_some <| And.intro @WA_some <| And.intro @WI_some <| And.intro @WS_some <| And.intro @WE_some <| And.intro @ch_true <| And.intro @ch_false <| And.intro @ch_not <| And.intro @ch_dec <| And.intro @at0 <| And.intro @atS <| And.intro @nx_next <| And.intro @nx_ret <| And.intro @nx_brk <| And.intro @nx_cont <| And.intro @rt_ret <| And.intro @rt_next <|
  And.intro @we_c <| And.intro @we_var <| And.intro @we_bin <| And.intro @we_cmp <| And.intro @we_neg <| And.intro @nt_bl <| And.intro @we_not <| And.intro @we_and <| And.intro @we_or <| And.intro @we_ite <| And.intro @we_chain <| And.intro @wa_nil <| And.intro @wa_cons <| And.intro @we_tup <| And.intro @we_lst <| And.intro @we_idx <|
  And.intro @wPart_nil <| And.intro @wPart_int <| And.intro @we_sl <| And.intro @we_blt <| And.intro @we_call <| And.intro @wPerm_some <| And.intro @we_callK <| And.intro @wRef_ref <| And.intro @we_meth <| And.intro @we_dict <| And.intro @we_lc <| And.intro @wHd_one <| And.intro @wSeq_str <| And.intro @wSeq_tup <| And.intro @wSeq_ref <| And.intro @wi_seq <|
  And.intro @wRng_1 <| And.intro @wRng_2 <| And.intro @wLv_tup <| And.intro @wLv_ref <| And.intro @wZip_2 <| And.intro @wZip_3 <| And.intro @ws_nil <| And.intro @ws_cons <| And.intro @ws_ret <| And.intro @ws_ex <| And.intro @ws_pass <| And.intro @ws_brk <| And.intro @ws_cont <| And.intro @ws_cond <| And.intro @ws_asg <| And.intro @we_nm <| And.intro @we_tu <| And.intro @we_ts0 <| And.intro @we_ts1 <|
  And.intro @ws_sub <| And.intro @wPair_2 @ws_loop
def wO := And.intro @w_add <| And.intro @w_addT <| And.intro @w_addS <| And.intro @w_sub <| And.intro @w_mul <| And.intro @w_fdv <| And.intro @w_mod <| And.intro @w_pow <| And.intro @w_shl <| And.intro @w_shr <| And.intro @w_band <| And.intro @w_bor <| And.intro @w_bxor <| And.intro @w_lt <| And.intro @w_le <| And.intro @w_gt <| And.intro @w_ge <| And.intro @w_eqI <| And.intro @w_eqS <| And.intro @w_neI <| And.intro @w_neS <|
  And.intro @w_isN <| And.intro @w_isI <| And.intro @w_isinS <| And.intro @w_idxT <| And.intro @w_idxR <| And.intro @w_slT <| And.intro @w_slR <| And.intro @w_neg <| And.intro @w_int <| And.intro @w_abs <| And.intro @w_lenT <| And.intro @w_lenS <| And.intro @w_lenR <| And.intro @w_divmod <| And.intro @w_max <| And.intro @w_min <| And.intro @w_tupR <|
  And.intro @w_isiN <| And.intro @w_isiB <| And.intro @w_isiI <| And.intro @w_isiS <| And.intro @w_isiT <| And.intro @w_app @w_ext
theorem set0 {d : D} {x : Option D} {r : En} : List.set (x :: r) 0 (some d) = some d :: r := rfl
theorem setS {d : D} {x : Option D} {r : En} {i : Nat} : List.set (x :: r) (i + 1) (some d) = x :: List.set r i (some d) := rfl
theorem setN0 {x : Option D} {r : En} : List.set (x :: r) 0 none = none :: r := rfl
theorem setNS {x : Option D} {r : En} {i : Nat} : List.set (x :: r) (i + 1) none = x :: List.set r i none := rfl
theorem ati0 {d : D} {r : List D} : atI (d :: r) 0 = some d := by
  unfold atI ixN
  simp
end MP
namespace MP
open PySem L2
theorem ati_nat {α : Type} {l : List α} (i : Nat) : atI l (i : Int) = l[i]? := by
  unfold atI ixN
  rw [if_pos (Int.natCast_nonneg i)]
  by_cases h : i < l.length
  · rw [if_pos (by omega)]
    simp
  · rw [if_neg (by omega)]
    simp at h ⊢
    omega
theorem ati1 {x y : D} {r : List D} : atI (x :: y :: r) 1 = some y := ati_nat (l := x :: y :: r) 1
theorem ati2 {x y z : D} {r : List D} : atI (x :: y :: z :: r) 2 = some z := ati_nat (l := x :: y :: z :: r) 2
def wE := And.intro @set0 <| And.intro @setS <| And.intro @ati0 <| And.intro @ati1 <| And.intro @ati2 <| And.intro @setN0 <| And.intro @setNS <| And.intro @e_mk1 <| And.intro @e_mk2 <| And.intro @e_mk0 <| And.intro @e_map <| And.intro @e_map0 <| And.intro @e_app <| And.intro @e_app0 <| And.intro @e_wip0 <| @e_wip
section
variable {S : Sto} {j : Nat} {x y z d : D}
theorem put0 (h : S[j]? = some (.lst [x, y, z])) : putD (.ref j) (.int 0) d S = some (S.set j (.lst [d, y, z])) := by
  unfold putD
  simp only [h]
  rfl
theorem put1 (h : S[j]? = some (.lst [x, y, z])) : putD (.ref j) (.int 1) d S = some (S.set j (.lst [x, d, z])) := by
  unfold putD
  simp only [h]
  rfl
theorem put2 (h : S[j]? = some (.lst [x, y, z])) : putD (.ref j) (.int 2) d S = some (S.set j (.lst [x, y, d])) := by
  unfold putD
  simp only [h]
  rfl
end
/-! the jar -/
def Jar (j : Nat) (S : Sto) : Prop := ∃ a b c : Int, S[j]? = some (.lst [.int a, .int b, .int c]) ∧ 0 ≤ a
/-- only the jar has changed -/
def JS (j : Nat) (S S' : Sto) : Prop := Jar j S' ∧ Gr (· = j) S S'
theorem JS.refl {j : Nat} {S : Sto} (h : Jar j S) : JS j S S := ⟨h, Gr.refl S⟩
theorem JS.trans {j : Nat} {S S1 S2 : Sto} (a : JS j S S1) (b : JS j S1 S2) : JS j S S2 := ⟨b.1, a.2.trans b.2⟩
theorem Jar.lt {j : Nat} {S : Sto} (h : Jar j S) : j < S.length := let ⟨_, _, _, e, _⟩ := h; lt_of_get e
theorem Jar.gr {X : Nat → Prop} {j : Nat} {S S1 : Sto} (h : Jar j S) (g : Gr X S S1) (hx : ¬ X j) : Jar j S1 := let ⟨a, b, c, e, q⟩ := h; ⟨a, b, c, g.get e hx, q⟩
theorem Jar.push {j : Nat} {S : Sto} (h : Jar j S) (c : Cell) : Jar j (S ++ [c]) := h.gr (X := No) ((Gr.refl S).push c) (fun z => z)
theorem Jar.set {j m : Nat} {S : Sto} (h : Jar j S) (hm : m ≠ j) (c : Cell) : Jar j (S.set m c) := let ⟨a, b, d, e, q⟩ := h; ⟨a, b, d, by rw [List.getElem?_set_ne hm]; exact e, q⟩
theorem JS.push {j : Nat} {S S1 : Sto} (h : JS j S S1) (c : Cell) : JS j S (S1 ++ [c]) := ⟨h.1.push c, h.2.push c⟩
theorem JS.set {j m : Nat} {S S1 : Sto} (h : JS j S S1) (hm : m ≠ j) (h2 : S.length ≤ m) (c : Cell) : JS j S (S1.set m c) := ⟨h.1.set hm c, h.2.set (.inl h2) c⟩
theorem JS.gr {j : Nat} {S S1 S2 : Sto} (h : JS j S S1) (g : Gr No S1 S2) : JS j S S2 := ⟨h.1.gr g (fun z => z), h.2.trans g.no⟩
theorem JS.get {j n : Nat} {S S1 : Sto} {c : Cell} (a : JS j S S1) (h : S[n]? = some c) (hx : n ≠ j) : S1[n]? = some c := a.2.get h hx
end MP
namespace MP
open PySem L2
/-! ### data that can be compared -/
def okP (n : Nat) (d : D) : Prop := ∃ p, pyT d = some p ∧ p.canLay0 = true ∧ p.depth ≤ n
theorem okP_int {n : Nat} {i : Int} : okP n (.int i) := ⟨.int i, rfl, by simp [PyData.canLay0], by simp [PyData.depth]⟩
theorem okP_str {n : Nat} {s : Str} (h : PyData.canLay0 (.str s) = true) : okP n (.str s) := ⟨.str s, rfl, h, by simp [PyData.depth]⟩
theorem okPs {n : Nat} : ∀ {l : List D}, (∀ x ∈ l, okP n x) → ∃ ps, pyTs l = some ps ∧ PyData.canLayAll0 ps = true ∧ PyData.depthAll ps ≤ n ∧ ps.length = l.length
  | [], _ => ⟨[], rfl, by simp [PyData.canLayAll0], by simp [PyData.depthAll], rfl⟩
  | d :: r, h => by
    obtain ⟨p, q1, q2, q3⟩ := h d List.mem_cons_self
    obtain ⟨ps, q4, q5, q6, q7⟩ := okPs fun x hx => h x (List.mem_cons_of_mem _ hx)
    refine ⟨p :: ps, by simp only [pyTs, q1, q4], by simp only [PyData.canLayAll0, q2, q5, Bool.and_self], ?_, by simp [q7]⟩
    simp only [PyData.depthAll]
    omega
theorem okP_tup {n : Nat} {l : List D} (h : ∀ x ∈ l, okP n x) : okP (n + 1) (.tup l) := by
  obtain ⟨ps, q1, q2, q3, q4⟩ := okPs h
  refine ⟨.tuple ps, by simp only [pyT, q1], by simp only [PyData.canLay0, q2], ?_⟩
  simp only [PyData.depth]
  omega
theorem eqvAll_nil {ps : List PyData} : PyData.eqvAll ps [] = ps.isEmpty := by cases ps <;> rfl
theorem shp {p : PyData} (h1 : p.canLay0 = true) (h2 : p.depth ≤ 64) : SeqAt.shaped p = true := by
  unfold SeqAt.shaped
  rw [h1, decide_eq_true h2]
  rfl
theorem empty_dec {l : List D} {ps : List PyData} (h : ps.length = l.length) : ps.isEmpty = decide (l = []) := by
  cases l <;> cases ps <;> first | rfl | (simp at h; done) | simp
theorem eq_nil {S : Sto} {n m : Nat} {l : List D} (h : ∀ x ∈ l, okP 63 x) (h1 : S[n]? = some (.lst l)) (h2 : S[m]? = some (.lst [])) : eqD S (.ref n) (.ref m) = some (decide (l = [])) := by
  obtain ⟨ps, q1, q2, q3, q4⟩ := okPs h
  have e1 : py S (.ref n) = some (.list ps) := by
    unfold py
    simp only [items_lst h1, q1]
  have e2 : py S (.ref m) = some (.list []) := by
    unfold py
    simp only [items_lst h2]
    rfl
  unfold eqD
  simp only [scE, e1, e2]
  rw [if_pos ⟨shp (by simpa [PyData.canLay0] using q2) (by simp only [PyData.depth]; omega), shp (by simp [PyData.canLay0, PyData.canLayAll0]) (by simp [PyData.depth, PyData.depthAll])⟩]
  rw [← empty_dec q4]
  simp only [PyData.eqv, eqvAll_nil]
theorem eq_nilT {S : Sto} {l : List D} (h : ∀ x ∈ l, okP 63 x) : eqD S (.tup l) (.tup []) = some (decide (l = [])) := by
  obtain ⟨ps, q1, q2, q3, q4⟩ := okPs h
  have e1 : py S (.tup l) = some (.tuple ps) := by
    unfold py
    simp only [pyT, q1]
  have e2 : py S (.tup []) = some (.tuple []) := rfl
  unfold eqD
  simp only [scE, e1, e2]
  rw [if_pos ⟨shp (by simpa [PyData.canLay0] using q2) (by simp only [PyData.depth]; omega), shp (by simp [PyData.canLay0, PyData.canLayAll0]) (by simp [PyData.depth, PyData.depthAll])⟩]
  rw [← empty_dec q4]
  simp only [PyData.eqv, eqvAll_nil]
end MP
namespace MP
open PySem L2
/-! ### the calculus for what came later: split, str, a range with a step, reversed -/
section
variable {cl : Nat → ON} {env : En} {S : Sto} {Q : D → Sto → Prop} {QI : List D → Lv → Sto → Prop}
theorem we_split {a b : E} : W (ev cl (.split a b) env S) Q = W (ev cl a env S) fun x S1 => W (ev cl b env S1) fun y S2 => W (oSplit x y S2) Q := by simp only [ev, we_f2]
theorem w_split {a b : Str} : W (oSplit (.str a) (.str b) S) Q = (((b.length == 0) = false ∧ a.length + 2 ≤ sizeLine) ∧ (Txt.split a b).length ≤ sizeLine ∧ Q (.ref S.length) (S ++ [.lst ((Txt.split a b).map D.str)])) := by
  unfold oSplit
  simp only
  split
  · rename_i c
    rw [W_newL, List.length_map]
    exact propext ⟨fun h => ⟨c, h⟩, fun h => h.2⟩
  · rename_i c
    exact propext ⟨fun h => (W_none h).elim, fun h => absurd h.1 c⟩
theorem w_strI {i : Int} : W (Bn.str.den [.int i] S) Q = (i.natAbs.log2 < 1920 ∧ Q (.str (toString i)) S) := by
  show W (gI _ _ S) Q = _
  rw [W_gI, decide_eq_true_eq]
theorem w_strS {s : Str} : W (Bn.str.den [.str s] S) Q = Q (.str s) S := W_some
/-- the argument lists of the sources -/
def wRng3 (ds : List D) (Q : List D → Prop) : Prop := match ds with
  | [.int i, .int j, .int c] => okStep i j c = true ∧ Q (stepTo i c (Builtin.Range.rangeSize i j c).toNat)
  | _ => False
theorem wRng3_is {i j c : Int} {Q : List D → Prop} : wRng3 [.int i, .int j, .int c] Q = (okStep i j c = true ∧ Q (stepTo i c (Builtin.Range.rangeSize i j c).toNat)) := rfl
theorem wi_rng3 {fa : FA} (h : WA (fa env S) fun ds S1 => wRng3 ds fun l => QI l [] S1) : WI (srcD .rng3 fa env S) QI := by
  obtain ⟨ds, S1, e, h⟩ := h
  show WI (iRange3 fa env S) QI
  unfold iRange3
  rw [e]
  unfold wRng3 at h
  split at h
  · rename_i i j c
    simp only
    rw [if_pos h.1, WI_some]
    exact h.2
  · exact h.elim
theorem wi_rev {fa : FA} (h : WA (fa env S) fun ds S1 => wHd ds fun d => wLv S1 d fun l lv => QI l.reverse lv S1) : WI (srcD .rev fa env S) QI := by
  obtain ⟨ds, S1, e, h⟩ := h
  show WI (iRevD (hd fa) env S) QI
  unfold iRevD hd
  rw [e]
  unfold wHd at h
  split at h
  · rename_i d
    simp only
    cases d <;> first | exact (h : False).elim | skip
    · rw [wLv_tup] at h
      rw [WI_some]
      exact h
    · rename_i n
      rw [wLv_ref] at h
      obtain ⟨l, e1, h⟩ := h
      simp only [e1, WI_some]
      exact h
  · exact h.elim
def wRevr (ds : List D) (Q : List D → Prop) : Prop := match ds with
  | [.int j] => (-(2 ^ 62) ≤ j ∧ j < 2 ^ 62) ∧ Q (stepTo (0 + (((j - 0).toNat : Nat) : Int) - 1) (-1) (j - 0).toNat)
  | _ => False
theorem wRevr_is {j : Int} {Q : List D → Prop} : wRevr [.int j] Q = ((-(2 ^ 62) ≤ j ∧ j < 2 ^ 62) ∧ Q (stepTo (0 + (((j - 0).toNat : Nat) : Int) - 1) (-1) (j - 0).toNat)) := rfl
theorem wi_revr {fa : FA} (h : WA (fa env S) fun ds S1 => wRevr ds fun l => QI l [] S1) : WI (srcD .revr fa env S) QI := by
  obtain ⟨ds, S1, e, h⟩ := h
  show WI (iRevRng fa env S) QI
  unfold iRevRng
  rw [e]
  unfold wRevr at h
  split at h
  · rename_i j
    simp only
    rw [if_pos h.1, WI_some]
    exact h.2
  · exact h.elim
theorem stepTo_len {lo c : Int} {n : Nat} : (stepTo lo c n).length = n := by simp [stepTo]
theorem stepTo_get {lo c : Int} {n i : Nat} {d : D} (h : (stepTo lo c n)[i]? = some d) : i < n ∧ d = .int (lo + i * c) := by
  have hi : i < n := by
    have := (List.getElem?_eq_some_iff.mp h).1
    rwa [stepTo_len] at this
  unfold stepTo at h
  rw [List.getElem?_map, List.getElem?_range hi] at h
  cases h
  exact ⟨hi, rfl⟩
end
theorem we_lenset {cl : Nat → ON} {env : En} {S : Sto} {Q : D → Sto → Prop} {a : E} (h : W (ev cl a env S) fun d S1 => ∃ (n : Nat) (xs : List Str), d = .ref n ∧ itemsAt S1 n = some (xs.map D.str) ∧ xs.Nodup ∧ xs.length ≤ 4000 ∧ Q (.int (xs.length : Nat)) S1) : W (ev cl (.lenset a) env S) Q := by
  obtain ⟨d, S1, e, n, xs, rfl, e2, nd, few, q⟩ := h
  have st : ∀ ys : List Str, strsOf (ys.map D.str) = some ys := fun ys => by
    induction ys with
    | nil => rfl
    | cons y r ih => simp only [List.map_cons, strsOf, ih]
  refine ⟨_, S1, ?_, q⟩
  simp only [ev]
  unfold fLenSet
  simp only [e, e2, st]
  rw [if_pos ⟨nd, few⟩]
def wN := And.intro @we_split <| And.intro @w_split <| And.intro @w_strI <| And.intro @w_strS <| And.intro @wRng3_is @wRevr_is
end MP
namespace MP
open PySem L2
/-! ### small things that every law wants -/
theorem no_lv {S' : Sto} : Live [] S' := fun p hp => nomatch hp
theorem upTo_len {lo : Int} {n : Nat} : (MP.upTo lo n).length = n := by simp [MP.upTo]
theorem upTo_get {lo : Int} {n i : Nat} {d : D} (h : (MP.upTo lo n)[i]? = some d) : i < n ∧ d = .int (lo + i) := by
  unfold MP.upTo at h
  rw [List.getElem?_map] at h
  cases e : (List.range n)[i]? with
  | none => rw [e] at h; cases h
  | some k =>
    rw [e] at h
    cases h
    have z : i < (List.range n).length := (List.getElem?_eq_some_iff.mp e).1
    have z2 := (List.getElem?_eq_some_iff.mp e).2
    rw [List.length_range] at z
    rw [List.getElem_range] at z2
    rw [z2]
    exact ⟨z2 ▸ z, rfl⟩
theorem map_get {α : Type} {f : α → D} {l : List α} {i : Nat} {d : D} (h : (l.map f)[i]? = some d) : ∃ a, l[i]? = some a ∧ d = f a := by
  rw [List.getElem?_map] at h
  cases e : l[i]? with
  | none => rw [e] at h; cases h
  | some a =>
    rw [e] at h
    cases h
    exact ⟨a, rfl, rfl⟩
theorem enum_get {l : List D} {i : Nat} {d : D} (h : (enumD 0 l)[i]? = some d) : ∃ x, l[i]? = some x ∧ d = .tup [.int i, x] := by
  have go : ∀ (k : Nat) (l : List D) (i : Nat), (enumD k l)[i]? = (l[i]?).map fun x => .tup [.int ((k + i : Nat) : Int), x] := by
    intro k l
    induction l generalizing k with
    | nil => intro i; simp [enumD]
    | cons a r ih =>
      intro i
      cases i with
      | zero => simp [enumD]
      | succ i =>
        simp only [enumD, List.getElem?_cons_succ]
        rw [ih]
        congr 2
        funext x
        congr 3
        omega
  rw [go] at h
  cases e : l[i]? with
  | none => rw [e] at h; cases h
  | some x =>
    rw [e] at h
    cases h
    exact ⟨x, rfl, by simp⟩
theorem enum_len : ∀ (k : Nat) (l : List D), (enumD k l).length = l.length
  | _, [] => rfl
  | k, _ :: r => by simp [enumD, enum_len]
theorem zip2_get : ∀ {a b : List D} {i : Nat} {d : D}, (zipD2 a b)[i]? = some d → ∃ x y, a[i]? = some x ∧ b[i]? = some y ∧ d = .tup [x, y]
  | [], _, _, _, h => by simp [zipD2] at h
  | _ :: _, [], _, _, h => by simp [zipD2] at h
  | x :: a, y :: b, 0, d, h => by
    simp [zipD2] at h
    exact ⟨x, y, rfl, rfl, h.symm⟩
  | x :: a, y :: b, i + 1, d, h => by
    simp [zipD2] at h
    obtain ⟨x, y, h1, h2, h3⟩ := zip2_get h
    exact ⟨x, y, by simpa using h1, by simpa using h2, h3⟩
theorem zip2_len : ∀ {a b : List D}, a.length = b.length → (zipD2 a b).length = a.length
  | [], [], _ => rfl
  | [], _ :: _, h => by simp at h
  | _ :: _, [], h => by simp at h
  | x :: a, y :: b, h => by simp [zipD2, zip2_len (a := a) (b := b) (by simpa using h)]
theorem mapIdx_bl {α : Type} (g : Nat → α → Bool) (ds : List α) : ds.mapIdx (fun i d => D.bl (g i d)) = (ds.mapIdx g).map D.bl := by
  apply List.ext_getElem?
  intro i
  simp [List.getElem?_mapIdx, List.getElem?_map]
  cases ds[i]? <;> rfl
theorem mapIdx_int {α : Type} (g : Nat → α → Int) (ds : List α) : ds.mapIdx (fun i d => D.int (g i d)) = (ds.mapIdx g).map D.int := by
  apply List.ext_getElem?
  intro i
  simp [List.getElem?_mapIdx, List.getElem?_map]
  cases ds[i]? <;> rfl
theorem mapIdx_g {α : Type} {β : Type} (g : α → β) (ds : List α) : (ds.mapIdx fun _ d => g d) = ds.map g := by
  apply List.ext_getElem?
  intro i
  simp only [List.getElem?_mapIdx, List.getElem?_map]
theorem all_true {S : Sto} {n : Nat} {ds : List D} {Q : D → Sto → Prop} (h : itemsAt S n = some (ds.mapIdx fun _ _ => D.bl true)) : W (Bn.all.den [.ref n] S) Q = Q (.bl true) S := by
  rw [mapIdx_bl] at h
  rw [w_all h]
  have e : (ds.mapIdx fun _ _ => true).all id = true := by
    rw [List.all_eq_true]
    intro b hb
    obtain ⟨i, h1, h2⟩ := List.mem_mapIdx.mp hb
    rw [← h2]
    rfl
  rw [e]
theorem all_map {S : Sto} {n : Nat} {ds : List D} {g : D → Bool} {Q : D → Sto → Prop} (h : S[n]? = some (.lst (ds.mapIdx fun _ d => D.bl (g d)))) : W (Bn.all.den [.ref n] S) Q = Q (.bl (ds.all g)) S := by
  rw [mapIdx_g (fun d => D.bl (g d))] at h
  have h' : itemsAt S n = some ((ds.map g).map D.bl) := by
    rw [List.map_map]
    exact items_lst h
  rw [w_all h', List.all_map]
  rfl
theorem all_bl {S : Sto} {n : Nat} {ds : List D} {g : Nat → Bool} {Q : D → Sto → Prop} (h : itemsAt S n = some (ds.mapIdx fun i _ => D.bl (g i))) : W (Bn.all.den [.ref n] S) Q = Q (.bl ((ds.mapIdx fun i _ => g i).all id)) S := by
  rw [mapIdx_bl] at h
  exact w_all h
theorem w_idxS {S : Sto} {Q : D → Sto → Prop} {s : Str} {i : Int} {c : Nat} (h : s.length ≤ sizeLine) (hc : atI s.cps.toList i = some c) : W (oIdx (.str s) (.int i) S) Q = Q (.str ⟨#[c]⟩) S := by
  unfold oIdx
  simp only
  rw [if_pos h, hc]
  exact W_some
theorem w_nin {S : Sto} {Q : D → Sto → Prop} {x y : D} {b : Bool} (h : inB S x y = some b) : W (CO.nin.den x y S) Q = Q (.bl (!b)) S := by
  show W (oNin x y S) Q = _
  unfold oNin
  rw [h]
  exact W_some
theorem w_repr {S : Sto} {Q : D → Sto → Prop} {d : D} {p : PyData} (h : py S d = some p) (ok : reprOk p) : W (Bn.repr.den [d] S) Q = Q (.str p.shown) S := by
  show W (bRepr [d] S) Q = _
  unfold bRepr
  simp only [h]
  rw [if_pos ok]
  exact W_some
def okR (p : PyData) : Bool := p.showable && (decide (p.shown.length ≤ sizeLine) && decide (p.depth ≤ 60))
theorem okR_ok {p : PyData} (h : okR p = true) : reprOk p := by
  unfold okR at h
  simp only [Bool.and_eq_true, decide_eq_true_eq] at h
  exact ⟨h.1, h.2.1, h.2.2⟩
theorem pyTs_ints : ∀ a : List Int, pyTs (a.map D.int) = some (a.map PyData.int)
  | [] => rfl
  | x :: r => by
    simp only [List.map_cons, pyTs, pyT, pyTs_ints r]
theorem py_ref {S : Sto} {n : Nat} {l : List D} {ps : List PyData} (h : S[n]? = some (.lst l)) (hp : pyTs l = some ps) : py S (.ref n) = some (.list ps) := by
  unfold py
  simp only [items_lst h, hp]
theorem w_mulT {S : Sto} {Q : D → Sto → Prop} {a : List D} {i : Int} : W (Op2.mul.den (.tup a) (.int i) S) Q = ((a ≠ [] ∧ -1000000 ≤ i ∧ i ≤ 1000 ∧ a.length ≤ 1000) ∧ Q (.tup (List.replicate i.toNat a).flatten) S) := by
  show W (gI _ _ S) Q = _
  rw [W_gI, decide_eq_true_eq]
theorem w_mulR {S : Sto} {Q : D → Sto → Prop} {n : Nat} {l : List D} {i : Int} (h : S[n]? = some (.lst l)) : W (Op2.mul.den (.ref n) (.int i) S) Q = ((0 ≤ i ∧ i ≤ 1000000 ∧ l.length * i.toNat ≤ sizeLine) ∧ (List.replicate i.toNat l).flatten.length ≤ sizeLine ∧ Q (.ref S.length) (S ++ [.lst (List.replicate i.toNat l).flatten])) := by
  have e : Op2.mul.den (.ref n) (.int i) S = (match S[n]? with
    | some (.lst xs) => if 0 ≤ i ∧ i ≤ 1000000 ∧ xs.length * i.toNat ≤ sizeLine then newL (List.replicate i.toNat xs).flatten S else none
    | _ => none) := rfl
  rw [e, h]
  simp only
  split
  · rename_i c
    rw [W_newL]
    exact propext ⟨fun h => ⟨c, h⟩, fun h => h.2⟩
  · rename_i c
    exact propext ⟨fun h => (W_none h).elim, fun h => absurd h.1 c⟩
theorem w_addR {S : Sto} {Q : D → Sto → Prop} {a b : Nat} {l m : List D} (h1 : S[a]? = some (.lst l)) (h2 : S[b]? = some (.lst m)) : W (Op2.add.den (.ref a) (.ref b) S) Q = ((l ++ m).length ≤ sizeLine ∧ Q (.ref S.length) (S ++ [.lst (l ++ m)])) := by
  show W (oAdd (.ref a) (.ref b) S) Q = _
  unfold oAdd
  simp only [h1, h2]
  exact W_newL
theorem band_nat (a b : Nat) : Builtin.bitAnd (a : Int) (b : Int) = ((a &&& b : Nat) : Int) := PySem.W.os_band a b
theorem pow32 {w : Nat} (h : w ≤ 32) : 2 ^ w ≤ 4294967296 := Nat.pow_le_pow_right (n := 2) (by decide) h
theorem nat_small {n : Nat} (h : n ≤ 4294967296) : n < 2 ^ 4096 := Nat.lt_of_le_of_lt h (by decide +kernel)
theorem okP.up {n m : Nat} {d : D} (h : okP n d) (hm : n ≤ m) : okP m d := let ⟨p, a, b, c⟩ := h; ⟨p, a, b, Nat.le_trans c hm⟩
/-- among texts -/
theorem inD_strs (s : Str) (l : List Str) : inD (.str s) (l.map D.str) = decide (s ∈ l) := by
  unfold inD
  rw [List.any_map]
  induction l with
  | nil => rfl
  | cons a r ih =>
    rw [List.any_cons, ih]
    by_cases h : s = a
    · subst h
      simp [toV, eqV]
    · have h2 : ¬ a = s := fun e => h e.symm
      simp [toV, eqV, h, h2]
theorem flat_strs (l : List Str) : (l.map D.str).all flatD = true := by
  rw [List.all_eq_true]
  intro x hx
  obtain ⟨s, _, rfl⟩ := List.mem_map.mp hx
  rfl
theorem in_strs {S : Sto} {y : D} {s : Str} {l : List Str} (h : seqOf S y = some (l.map D.str)) : inB S (.str s) y = some (decide (s ∈ l)) := by
  have e : inB S (.str s) y = (match seqOf S y with
    | some l => if flatD (.str s) = true ∧ l.all flatD = true then some (inD (.str s) l) else none
    | none => none) := by
    cases y <;> first | rfl | (simp [seqOf] at h; done)
  rw [e, h]
  simp only
  rw [if_pos ⟨rfl, flat_strs l⟩, inD_strs]
end MP
namespace MP
open PySem L2
/-! ### how long a datum's text is -/
structure Sh (n d : Nat) (p : PyData) : Prop where
  ok : p.showable = true
  len : p.shown.length ≤ n
  dep : p.depth ≤ d
theorem Sh.up {n m d e : Nat} {p : PyData} (h : Sh n d p) (h1 : n ≤ m) (h2 : d ≤ e) : Sh m e p := ⟨h.ok, Nat.le_trans h.len h1, Nat.le_trans h.dep h2⟩
theorem Sh.repr {n d : Nat} {p : PyData} (h : Sh n d p) (h1 : n ≤ 1000000) (h2 : d ≤ 60) : reprOk p := ⟨h.ok, Nat.le_trans h.len (Nat.le_trans h1 (by decide)), Nat.le_trans h.dep h2⟩
theorem ofStr_len (s : String) : (Str.ofString s).length = s.length := PySem.ofString_length s
theorem sh_int {i : Int} {k : Nat} (hk : 0 < k) (hk2 : k ≤ 500) (h : i.natAbs < 10 ^ k) : Sh (k + 1) 0 (.int i) := by
  refine ⟨?_, ?_, by simp [PyData.depth]⟩
  · simp only [PyData.showable, decide_eq_true_eq]
    have h2 : i.natAbs < 2 ^ 1920 := Nat.lt_of_lt_of_le h (Nat.le_trans (Nat.pow_le_pow_right (by decide) hk2) (by decide +kernel))
    by_cases z : i.natAbs = 0
    · rw [z]
      decide +kernel
    · exact (Nat.log2_lt z).mpr h2
  · simp only [PyData.shown]
    show (Str.ofString (toString i)).length ≤ _
    rw [ofStr_len]
    exact PySem.int_text_length_le10 hk h
theorem sh_nat {i : Nat} {k : Nat} (hk : 0 < k) (hk2 : k ≤ 500) (h : i < 10 ^ k) : Sh (k + 1) 0 (.int (i : Int)) := sh_int hk hk2 (by simpa using h)
theorem sh_bool (b : Bool) : Sh 5 0 (.bool b) := ⟨by simp [PyData.showable], by cases b <;> simp only [PyData.shown] <;> decide, by simp [PyData.depth]⟩
theorem sh_none : Sh 4 0 .none := ⟨by simp [PyData.showable], by simp only [PyData.shown]; decide, by simp [PyData.depth]⟩
theorem sh_str {s : Str} (h : ∀ c ∈ s.cps.toList, c < 16 ^ 8) : Sh (10 * s.length + 2) 0 (.str s) := ⟨by simp [PyData.showable], by simp only [PyData.shown]; exact StrLaws.reprText_len s h, by simp [PyData.depth]⟩
theorem shs {n d : Nat} : ∀ {l : List PyData}, (∀ p ∈ l, Sh n d p) → PyData.showableAll l = true ∧ piled (PyData.shownAll l) ≤ l.length * (n + 2) ∧ PyData.depthAll l ≤ d ∧ (PyData.shownAll l).length = l.length
  | [], _ => ⟨by simp [PyData.showableAll], by simp [PyData.shownAll, piled], by simp [PyData.depthAll], by simp [PyData.shownAll]⟩
  | p :: r, h => by
    obtain ⟨a, b, c⟩ := h p List.mem_cons_self
    obtain ⟨q1, q2, q3, q4⟩ := shs fun x hx => h x (List.mem_cons_of_mem _ hx)
    refine ⟨by simp only [PyData.showableAll, a, q1, Bool.and_self], ?_, ?_, by simp [PyData.shownAll, q4]⟩
    · simp only [PyData.shownAll]
      rw [piled_cons, List.length_cons, Nat.succ_mul]
      omega
    · simp only [PyData.depthAll]
      omega
theorem strLen_app (a b : Str) : (a ++ b).length = a.length + b.length := PySem.strLen_append a b
theorem sh_tup {n d m : Nat} {l : List PyData} (h : ∀ p ∈ l, Sh n d p) (hm : l.length ≤ m) : Sh (m * (n + 2) + 3) (d + 1) (.tuple l) := by
  obtain ⟨q1, q2, q3, q4⟩ := shs h
  have hmul : l.length * (n + 2) ≤ m * (n + 2) := Nat.mul_le_mul_right _ hm
  refine ⟨by simp only [PyData.showable, q1], ?_, by simp only [PyData.depth]; omega⟩
  simp only [PyData.shown]
  unfold tupleText
  rw [strLen_app, strLen_app]
  have e1 : (Str.ofString "(").length = 1 := rfl
  have e2 : (Str.ofString (if (PyData.shownAll l).length == 1 then ",)" else ")" : String)).length ≤ 2 := by split <;> decide
  by_cases z : PyData.shownAll l = []
  · rw [z]
    have e3 : (Str.join ", " []).length = 0 := rfl
    rw [z] at e2
    show (Str.ofString "(").length + _ + _ ≤ _
    have e4 : (Str.ofString (if ([] : List Str).length == 1 then ",)" else ")" : String)).length ≤ 2 := e2
    omega
  · have := join_length_add _ z
    show (Str.ofString "(").length + _ + (Str.ofString _).length ≤ _
    omega
theorem textFrom_le : ∀ (ts : List Str) (k : Nat) (acc : Str), (textFrom k acc ts).length ≤ acc.length + piled ts
  | [], k, acc => by show acc.length ≤ _; omega
  | t :: r, k, acc => by
    have h1 := textFrom_le r (k + 1) (acc ++ (if k > 0 then ", " else "" : String) ++ t)
    have e : (acc ++ (if k > 0 then ", " else "" : String) ++ t).length = acc.length + (if k > 0 then 2 else 0) + t.length := by
      rw [strLen_app, strLen_app]
      split <;> rfl
    rw [piled_cons]
    show (textFrom (k + 1) _ r).length ≤ _
    have e2 : (if k > 0 then 2 else 0 : Nat) ≤ 2 := by split <;> omega
    omega
theorem sh_lst {n d m : Nat} {l : List PyData} (h : ∀ p ∈ l, Sh n d p) (hm : l.length ≤ m) : Sh (m * (n + 2) + 3) (d + 1) (.list l) := by
  obtain ⟨q1, q2, q3, q4⟩ := shs h
  have hmul : l.length * (n + 2) ≤ m * (n + 2) := Nat.mul_le_mul_right _ hm
  refine ⟨by simp only [PyData.showable, q1], ?_, by simp only [PyData.depth]; omega⟩
  simp only [PyData.shown]
  unfold listText
  rw [strLen_app]
  have h1 := textFrom_le (PyData.shownAll l) 0 (Str.ofString "[")
  have e1 : (Str.ofString "[").length = 1 := rfl
  have e2 : (Str.ofString "]").length = 1 := rfl
  show (textFrom 0 (Str.ofString "[") (PyData.shownAll l)).length + (Str.ofString "]").length ≤ _
  omega
end MP
namespace Lw
/-! ### numbers as rows of bits -/
def ofB (l : List Nat) : Nat := l.foldl (fun a b => 2 * a + b) 0
def toB : Nat → Nat → List Nat
  | 0, _ => []
  | w + 1, n => n / 2 ^ w % 2 :: toB w n
def Bits (l : List Nat) : Prop := ∀ b ∈ l, b < 2
theorem ofB_from (l : List Nat) : ∀ a : Nat, l.foldl (fun a b => 2 * a + b) a = a * 2 ^ l.length + ofB l := by
  unfold ofB
  induction l with
  | nil => intro a; simp
  | cons b r ih =>
    intro a
    rw [List.foldl_cons, List.foldl_cons, ih, ih (2 * 0 + b), List.length_cons, Nat.pow_succ]
    rw [Nat.mul_zero, Nat.zero_add, Nat.add_mul, Nat.add_assoc, Nat.mul_comm 2 a, Nat.mul_assoc, Nat.mul_comm 2]
theorem ofB_nil : ofB [] = 0 := rfl
theorem ofB_cons (b : Nat) (l : List Nat) : ofB (b :: l) = b * 2 ^ l.length + ofB l := by
  have h := ofB_from l (2 * 0 + b)
  have e : (2 * 0 + b) = b := by omega
  show l.foldl (fun a b => 2 * a + b) (2 * 0 + b) = _
  rw [h, e]
theorem ofB_app (l m : List Nat) : ofB (l ++ m) = ofB l * 2 ^ m.length + ofB m := by
  show (l ++ m).foldl _ 0 = _
  rw [List.foldl_append]
  exact ofB_from m _
theorem ofB_snoc (l : List Nat) (b : Nat) : ofB (l ++ [b]) = 2 * ofB l + b := by
  rw [ofB_app]
  simp [ofB_cons, ofB_nil]
  omega
theorem ofB_lt : ∀ {l : List Nat}, Bits l → ofB l < 2 ^ l.length
  | [], _ => by simp [ofB_nil]
  | b :: r, h => by
    have h1 := ofB_lt (l := r) fun x hx => h x (List.mem_cons_of_mem _ hx)
    have h2 := h b List.mem_cons_self
    rw [ofB_cons, List.length_cons, Nat.pow_succ]
    have : b * 2 ^ r.length ≤ 1 * 2 ^ r.length := Nat.mul_le_mul_right _ (by omega)
    omega
theorem toB_len : ∀ {w n : Nat}, (toB w n).length = w
  | 0, _ => rfl
  | w + 1, n => by simp [toB, toB_len]
theorem toB_bits : ∀ {w n : Nat}, Bits (toB w n)
  | 0, _ => fun _ h => by cases h
  | w + 1, n => fun b h => by
    rcases List.mem_cons.mp h with rfl | h
    · exact Nat.mod_lt _ (by decide)
    · exact toB_bits b h
theorem toB_get : ∀ {w n i : Nat}, i < w → (toB w n)[i]? = some (n / 2 ^ (w - 1 - i) % 2)
  | 0, _, _, h => by cases h
  | w + 1, n, 0, _ => by simp [toB]
  | w + 1, n, i + 1, h => by
    rw [toB, List.getElem?_cons_succ, toB_get (by omega)]
    congr 4
    omega
theorem ofB_toB : ∀ {w n : Nat}, ofB (toB w n) = n % 2 ^ w
  | 0, n => by simp [toB, ofB_nil, Nat.mod_one]
  | w + 1, n => by rw [toB, ofB_cons, toB_len, ofB_toB, Nat.mod_pow_succ, Nat.mul_comm, Nat.add_comm]
theorem toB_mod : ∀ {w v n : Nat}, w ≤ v → toB w (n % 2 ^ v) = toB w n
  | 0, _, _, _ => rfl
  | w + 1, v, n, h => by
    rw [toB, toB, toB_mod (by omega)]
    congr 1
    have e : 2 ^ v = 2 ^ w * 2 ^ (v - w) := by rw [← Nat.pow_add]; congr 1; omega
    rw [e, Nat.mod_mul_right_div_self, Nat.mod_mod_of_dvd]
    have e2 : 2 ^ (v - w) = 2 * 2 ^ (v - w - 1) := by rw [← Nat.pow_succ']; congr 1; omega
    rw [e2]
    exact Nat.dvd_mul_right _ _
theorem toB_ofB : ∀ {l : List Nat}, Bits l → toB l.length (ofB l) = l
  | [], _ => rfl
  | b :: r, h => by
    have hb : Bits r := fun x hx => h x (List.mem_cons_of_mem _ hx)
    have h2 := h b List.mem_cons_self
    have h3 := ofB_lt hb
    rw [List.length_cons, toB, ofB_cons]
    have p : 0 < 2 ^ r.length := Nat.pow_pos (by decide)
    have e1 : (b * 2 ^ r.length + ofB r) / 2 ^ r.length % 2 = b := by
      rw [Nat.mul_comm, Nat.mul_add_div p, Nat.div_eq_of_lt h3, Nat.add_zero, Nat.mod_eq_of_lt h2]
    have e2 : toB r.length (b * 2 ^ r.length + ofB r) = r := by
      rw [← toB_mod (Nat.le_refl _), Nat.mul_comm, Nat.mul_add_mod, Nat.mod_eq_of_lt h3, toB_ofB hb]
    rw [e1, e2]
/-! fields of widths, words that fit -/
inductive Fit : List Nat → List Nat → Prop where
  | nil : Fit [] []
  | cons {w x : Nat} {ws xs : List Nat} (h : x < 2 ^ w) (r : Fit ws xs) : Fit (w :: ws) (x :: xs)
theorem Fit.len : ∀ {ws xs : List Nat}, Fit ws xs → xs.length = ws.length
  | _, _, .nil => rfl
  | _, _, .cons _ r => by simp [r.len]
theorem Fit.get : ∀ {ws xs : List Nat}, Fit ws xs → ∀ {i w x : Nat}, ws[i]? = some w → xs[i]? = some x → x < 2 ^ w
  | _, _, .nil, _, _, _, h, _ => by simp at h
  | _, _, .cons q r, 0, _, _, h1, h2 => by simp at h1 h2; subst h1 h2; exact q
  | _, _, .cons q r, i + 1, _, _, h1, h2 => r.get (by simpa using h1) (by simpa using h2)
theorem Fit.of_get : ∀ {ws xs : List Nat}, xs.length = ws.length → (∀ i w x : Nat, ws[i]? = some w → xs[i]? = some x → x < 2 ^ w) → Fit ws xs
  | [], [], _, _ => .nil
  | _ :: _, [], h, _ => by simp at h
  | [], _ :: _, h, _ => by simp at h
  | w :: ws, x :: xs, h, q => .cons (q 0 w x rfl rfl) (Fit.of_get (by simpa using h) fun i a b h1 h2 => q (i + 1) a b (by simpa using h1) (by simpa using h2))
def fB : List Nat → List Nat → List Nat
  | w :: ws, x :: xs => toB w x ++ fB ws xs
  | _, _ => []
def cutW : List Nat → List Nat → List Nat
  | [], _ => []
  | w :: ws, bs => ofB (bs.take w) :: cutW ws (bs.drop w)
theorem fB_len : ∀ {ws xs : List Nat}, xs.length = ws.length → (fB ws xs).length = ws.sum
  | [], [], _ => rfl
  | _ :: _, [], h => by simp at h
  | [], _ :: _, h => by simp at h
  | w :: ws, x :: xs, h => by simp [fB, toB_len, fB_len (ws := ws) (xs := xs) (by simpa using h)]
theorem fB_bits : ∀ {ws xs : List Nat}, Bits (fB ws xs)
  | [], [] => fun _ h => by cases h
  | _ :: _, [] => fun _ h => by cases h
  | [], _ :: _ => fun _ h => by cases h
  | w :: ws, x :: xs => fun b h => by
    rcases List.mem_append.mp h with h | h
    · exact toB_bits b h
    · exact fB_bits b h
theorem fB_snoc : ∀ {ws xs : List Nat} {w x : Nat}, xs.length = ws.length → fB (ws ++ [w]) (xs ++ [x]) = fB ws xs ++ toB w x
  | [], [], w, x, _ => by simp [fB]
  | _ :: _, [], _, _, h => by simp at h
  | [], _ :: _, _, _, h => by simp at h
  | v :: ws, y :: xs, w, x, h => by
    simp only [List.cons_append, fB, List.append_assoc]
    rw [fB_snoc (by simpa using h)]
theorem cutW_len : ∀ {ws bs : List Nat}, (cutW ws bs).length = ws.length
  | [], _ => rfl
  | w :: ws, bs => by simp [cutW, cutW_len]
theorem cutW_fB : ∀ {ws xs : List Nat}, Fit ws xs → cutW ws (fB ws xs) = xs
  | _, _, .nil => rfl
  | _, _, .cons (w := w) (x := x) h r => by
    simp only [cutW, fB]
    rw [List.take_append_of_le_length (by rw [toB_len]; exact Nat.le_refl _), List.take_of_length_le (by rw [toB_len]; exact Nat.le_refl _), List.drop_append_of_le_length (by rw [toB_len]; exact Nat.le_refl _), List.drop_of_length_le (by rw [toB_len]; exact Nat.le_refl _), List.nil_append, cutW_fB r, ofB_toB, Nat.mod_eq_of_lt h]
theorem Bits.take {l : List Nat} (h : Bits l) (n : Nat) : Bits (l.take n) := fun b q => h b (List.mem_of_mem_take q)
theorem Bits.drop {l : List Nat} (h : Bits l) (n : Nat) : Bits (l.drop n) := fun b q => h b (List.mem_of_mem_drop q)
theorem fB_cutW : ∀ {ws bs : List Nat}, Bits bs → bs.length = ws.sum → fB ws (cutW ws bs) = bs
  | [], bs, _, h => by
    simp at h
    rw [h]
    rfl
  | w :: ws, bs, hb, h => by
    simp only [List.sum_cons] at h
    simp only [cutW, fB]
    rw [fB_cutW (hb.drop w) (by rw [List.length_drop]; omega)]
    have e := toB_ofB (hb.take w)
    rw [List.length_take, Nat.min_eq_left (by omega)] at e
    rw [e, List.take_append_drop]
theorem cutW_fit : ∀ {ws bs : List Nat}, Bits bs → bs.length = ws.sum → Fit ws (cutW ws bs)
  | [], bs, _, h => .nil
  | w :: ws, bs, hb, h => by
    simp only [List.sum_cons] at h
    have e := ofB_lt (hb.take w)
    rw [List.length_take, Nat.min_eq_left (by omega)] at e
    exact .cons e (cutW_fit (hb.drop w) (by rw [List.length_drop]; omega))
theorem cutW_get : ∀ {ws bs : List Nat} {i w : Nat}, ws[i]? = some w → (cutW ws bs)[i]? = some (ofB ((bs.drop (ws.take i).sum).take w))
  | [], _, _, _, h => by simp at h
  | v :: ws, bs, 0, w, h => by
    simp at h
    subst h
    simp [cutW]
  | v :: ws, bs, i + 1, w, h => by
    rw [cutW, List.getElem?_cons_succ, cutW_get (by simpa using h)]
    simp [List.drop_drop]
/-- a part of a number, by division -/
theorem ofB_part {bs : List Nat} (hb : Bits bs) {s w : Nat} (h : s + w ≤ bs.length) : ofB bs / 2 ^ (bs.length - (s + w)) % 2 ^ w = ofB ((bs.drop s).take w) := by
  have e : bs = bs.take s ++ ((bs.drop s).take w ++ bs.drop (s + w)) := by
    rw [← List.drop_drop, List.take_append_drop, List.take_append_drop]
  have h1 := ofB_lt (hb.drop (s + w))
  have h2 := ofB_lt ((hb.drop s).take w)
  rw [List.length_drop] at h1
  rw [List.length_take, List.length_drop, Nat.min_eq_left (by omega)] at h2
  have p : 0 < 2 ^ (bs.length - (s + w)) := Nat.pow_pos (by decide)
  have e2 : ofB bs = (ofB (bs.take s) * 2 ^ w + ofB ((bs.drop s).take w)) * 2 ^ (bs.length - (s + w)) + ofB (bs.drop (s + w)) := by
    conv => lhs; rw [e]
    rw [ofB_app, ofB_app, List.length_append, List.length_drop, List.length_take, List.length_drop, Nat.min_eq_left (by omega), Nat.pow_add, Nat.add_mul, Nat.mul_assoc, Nat.add_assoc]
  rw [e2, Nat.mul_comm, Nat.mul_add_div p, Nat.div_eq_of_lt h1, Nat.add_zero, Nat.mul_comm, Nat.mul_add_mod, Nat.mod_eq_of_lt h2]
theorem ofB_fB_snoc {ws xs : List Nat} {w x : Nat} (h : xs.length = ws.length) (hx : x < 2 ^ w) : ofB (fB (ws ++ [w]) (xs ++ [x])) = ofB (fB ws xs) * 2 ^ w + x := by
  rw [fB_snoc h, ofB_app, toB_len, ofB_toB, Nat.mod_eq_of_lt hx]
theorem fB_ones : ∀ {ws : List Nat}, fB ws (ws.map fun w => 2 ^ w - 1) = List.replicate ws.sum 1
  | [] => rfl
  | w :: ws => by
    simp only [List.map_cons, fB, List.sum_cons]
    rw [fB_ones, ← List.replicate_append_replicate]
    congr 1
    have e : ∀ v, ofB (List.replicate v 1) = 2 ^ v - 1 := fun v => by
      induction v with
      | zero => rfl
      | succ v ih =>
        have : 0 < 2 ^ v := Nat.pow_pos (by decide)
        rw [List.replicate_succ, ofB_cons, ih, List.length_replicate, Nat.pow_succ]
        omega
    have b : Bits (List.replicate w 1) := fun x hx => by rw [List.eq_of_mem_replicate hx]; decide
    have := toB_ofB b
    rw [List.length_replicate, e] at this
    exact this
end Lw

namespace Lw
open PySem L2 PySem.Spec PyProof.Rows MP
def top (i : Nat) : Stmt := PySem.Challenge.pw_switchstages_k03_whole_fields_read_and_w.main.body.getD i (.Pass ⟨0, 0, 0, 0⟩)
def b_is_name : Ss := (.cons (.cond (.or (.not (.blt (.isi .str) (.cons (.var 0) .nil))) (.or (.not (.chain .le .le (.c (.int 1)) (.blt .len (.cons (.var 0) .nil)) (.c (.int 12)))) (.cmp .isin (.var 0) (.c (.tup [.str "header", .str "local", .str "state", .str "read", .str "accept", .str "refuse", .str "go", .str "by", .str "case", .str "else", .str "order", .str "register", .str "action", .str "param", .str "table", .str "key", .str "exact", .str "prefix", .str "mask", .str "range", .str "default", .str "room", .str "control", .str "end", .str "set", .str "put", .str "strike", .str "touch", .str "add", .str "greatest", .str "least", .str "or", .str "into", .str "apply", .str "if", .str "then", .str "not", .str "both", .str "and", .str "either", .str "held", .str "in", .str "out", .str "gone", .str "entry", .str "to"]))))) (.cons (.ret (.c (.bl false))) .nil) .nil) (.cons (.ret (.and (.cmp .isin (.idx (.var 0) (.c (.int 0))) (.c (.str "abcdefghijklmnopqrstuvwxyz"))) (.blt .all (.cons (.lc .seq (.cons (.var 0) .nil) (.nm 1) (.c (.bl true)) (.cmp .isin (.var 1) (.bin .add (.bin .add (.c (.str "abcdefghijklmnopqrstuvwxyz")) (.c (.str "0123456789"))) (.c (.str "_")))) [1]) .nil)))) .nil))
def e_is_name : Ent := ⟨"is_name", top 11, ["value"], ["value", "sign"], [], ⟨1, 2, b_is_name⟩⟩
def b_are_unlike : Ss := (.cons (.ret (.cmp .eq (.lenset (.var 0)) (.blt .len (.cons (.var 0) .nil)))) .nil)
def e_are_unlike : Ent := ⟨"are_unlike", top 12, ["names"], ["names"], [], ⟨1, 1, b_are_unlike⟩⟩
def b_is_whole : Ss := (.cons (.ret (.and (.blt (.isi .int) (.cons (.var 0) .nil)) (.not (.blt (.isi .bl) (.cons (.var 0) .nil))))) .nil)
def e_is_whole : Ent := ⟨"is_whole", top 14, ["value"], ["value"], [], ⟨1, 1, b_is_whole⟩⟩
def b_is_between : Ss := (.cons (.ret (.and (.call 2 (.cons (.var 0) .nil)) (.chain .le .le (.var 1) (.var 0) (.var 2)))) .nil)
def e_is_between : Ent := ⟨"is_between", top 15, ["value", "low", "high"], ["value", "low", "high"], [], ⟨3, 3, b_is_between⟩⟩
def b_are_pairs : Ss := (.cons (.cond (.or (.not (.blt (.isi .tup) (.cons (.var 0) .nil))) (.not (.chain .le .le (.var 1) (.blt .len (.cons (.var 0) .nil)) (.var 2)))) (.cons (.ret (.c (.bl false))) .nil) .nil) (.cons (.cond (.not (.blt .all (.cons (.lc .seq (.cons (.var 0) .nil) (.nm 3) (.c (.bl true)) (.and (.blt (.isi .tup) (.cons (.var 3) .nil)) (.and (.cmp .eq (.blt .len (.cons (.var 3) .nil)) (.c (.int 2))) (.call 0 (.cons (.idx (.var 3) (.c (.int 0))) .nil)))) [3]) .nil))) (.cons (.ret (.c (.bl false))) .nil) .nil) (.cons (.ret (.call 1 (.cons (.lc .seq (.cons (.var 0) .nil) (.tu [(.nm 4), (.nm 5)]) (.c (.bl true)) (.var 4) [4, 5]) .nil))) .nil)))
def e_are_pairs : Ent := ⟨"are_pairs", top 21, ["value", "least", "most"], ["value", "least", "most", "each", "name", "_"], [], ⟨3, 6, b_are_pairs⟩⟩
def b_are_fields : Ss := (.cons (.cond (.or (.not (.call 4 (.cons (.var 0) (.cons (.c (.int 1)) (.cons (.c (.int 12)) .nil))))) (.not (.blt .all (.cons (.lc .seq (.cons (.var 0) .nil) (.tu [(.nm 2), (.nm 3)]) (.c (.bl true)) (.call 3 (.cons (.var 3) (.cons (.c (.int 1)) (.cons (.c (.int 32)) .nil)))) [2, 3]) .nil)))) (.cons (.ret (.c (.bl false))) .nil) .nil) (.cons (.asg (.nm 1) (.blt .sum (.cons (.lc .seq (.cons (.var 0) .nil) (.tu [(.nm 2), (.nm 3)]) (.c (.bl true)) (.var 3) [2, 3]) .nil))) (.cons (.ret (.and (.cmp .eq (.bin .mod (.var 1) (.c (.int 8))) (.c (.int 0))) (.cmp .le (.var 1) (.c (.int 128))))) .nil)))
def e_are_fields : Ent := ⟨"are_fields", top 22, ["value"], ["value", "bits", "_", "width"], [], ⟨1, 4, b_are_fields⟩⟩
def b_are_headers_by : Ss := (.cons (.ret (.and (.call 4 (.cons (.var 0) (.cons (.c (.int 0)) (.cons (.c (.int 6)) .nil)))) (.blt .all (.cons (.lc .seq (.cons (.var 0) .nil) (.tu [(.nm 1), (.nm 2)]) (.c (.bl true)) (.call 5 (.cons (.var 2) .nil)) [1, 2]) .nil)))) .nil)
def e_are_headers_by : Ent := ⟨"are_headers_by", top 23, ["value"], ["value", "_", "fields"], [], ⟨1, 3, b_are_headers_by⟩⟩
def b_are_bytes : Ss := (.cons (.ret (.and (.blt (.isi .tup) (.cons (.var 0) .nil)) (.and (.cmp .le (.blt .len (.cons (.var 0) .nil)) (.var 1)) (.blt .all (.cons (.lc .seq (.cons (.var 0) .nil) (.nm 2) (.c (.bl true)) (.call 3 (.cons (.var 2) (.cons (.c (.int 0)) (.cons (.c (.int 255)) .nil)))) [2]) .nil))))) .nil)
def e_are_bytes : Ent := ⟨"are_bytes", top 24, ["value", "most"], ["value", "most", "each"], [], ⟨2, 3, b_are_bytes⟩⟩
def b_are_field_words : Ss := (.cons (.cond (.or (.not (.blt (.isi .tup) (.cons (.var 1) .nil))) (.cmp .ne (.blt .len (.cons (.var 1) .nil)) (.blt .len (.cons (.var 0) .nil)))) (.cons (.ret (.c (.bl false))) .nil) .nil) (.cons (.ret (.blt .all (.cons (.lc .zip (.cons (.var 1) (.cons (.var 0) .nil)) (.tu [(.nm 2), (.tu [(.nm 3), (.nm 4)])]) (.c (.bl true)) (.call 3 (.cons (.var 2) (.cons (.c (.int 0)) (.cons (.bin .sub (.bin .shl (.c (.int 1)) (.var 4)) (.c (.int 1))) .nil)))) [2, 3, 4]) .nil))) .nil))
def e_are_field_words : Ent := ⟨"are_field_words", top 25, ["fields", "value"], ["fields", "value", "word", "_", "width"], [], ⟨2, 5, b_are_field_words⟩⟩
def b_size_by : Ss := (.cons (.ret (.bin .fdv (.blt .sum (.cons (.lc .seq (.cons (.var 0) .nil) (.tu [(.nm 1), (.nm 2)]) (.c (.bl true)) (.var 2) [1, 2]) .nil)) (.c (.int 8)))) .nil)
def e_size_by : Ent := ⟨"size_by", top 27, ["fields"], ["fields", "_", "width"], [], ⟨1, 3, b_size_by⟩⟩
def b_read_by : Ss := (.cons (.asg (.tu [(.nm 3), (.nm 4), (.nm 5)]) (.tup (.cons (.c (.int 0)) (.cons (.bin .mul (.c (.int 8)) (.blt .len (.cons (.var 1) .nil))) (.cons (.lst .nil) .nil))))) (.cons (.loop .seq (.cons (.var 1) .nil) (.nm 2) (.cons (.asg (.nm 3) (.bin .add (.bin .mul (.var 3) (.c (.int 256))) (.var 2))) .nil)) (.cons (.loop .seq (.cons (.var 0) .nil) (.tu [(.nm 6), (.nm 7)]) (.cons (.asg (.nm 4) (.bin .sub (.var 4) (.var 7))) (.cons (.ex (.meth .app (.var 5) (.bin .mod (.bin .shr (.var 3) (.var 4)) (.bin .shl (.c (.int 1)) (.var 7))))) .nil))) (.cons (.ret (.blt .tuple (.cons (.var 5) .nil))) .nil))))
def e_read_by : Ent := ⟨"read_by", top 28, ["fields", "taken"], ["fields", "taken", "byte", "number", "left", "found", "_", "width"], [], ⟨2, 8, b_read_by⟩⟩
def b_written_by : Ss := (.cons (.asg (.nm 2) (.c (.int 0))) (.cons (.loop .zip (.cons (.var 1) (.cons (.var 0) .nil)) (.tu [(.nm 3), (.tu [(.nm 4), (.nm 5)])]) (.cons (.asg (.nm 2) (.bin .add (.bin .shl (.var 2) (.var 5)) (.var 3))) .nil)) (.cons (.ret (.blt .tuple (.cons (.lc .revr (.cons (.call 9 (.cons (.var 0) .nil)) .nil) (.nm 6) (.c (.bl true)) (.bin .mod (.bin .shr (.var 2) (.bin .mul (.c (.int 8)) (.var 6))) (.c (.int 256))) [6]) .nil))) .nil)))
def e_written_by : Ent := ⟨"written_by", top 29, ["fields", "words"], ["fields", "words", "number", "word", "_", "width", "at"], [], ⟨2, 7, b_written_by⟩⟩
def b_fields_at : Ss := (.cons (.cond (.not (.call 6 (.cons (.var 0) .nil))) (.cons .never .nil) .nil) (.cons (.cond (.not (.call 3 (.cons (.var 1) (.cons (.c (.int 0)) (.cons (.bin .sub (.blt .len (.cons (.var 0) .nil)) (.c (.int 1))) .nil))))) (.cons .never .nil) .nil) (.cons (.ret (.idx (.idx (.var 0) (.var 1)) (.c (.int 1)))) .nil)))
def e_fields_at : Ent := ⟨"fields_at", top 31, ["headers", "index"], ["headers", "index"], [], ⟨2, 2, b_fields_at⟩⟩
def b_size_of : Ss := (.cons (.ret (.call 9 (.cons (.call 12 (.cons (.var 0) (.cons (.var 1) .nil))) .nil))) .nil)
def e_size_of : Ent := ⟨"size_of", top 32, ["headers", "index"], ["headers", "index"], [(["index", "headers"], [1, 0])], ⟨2, 2, b_size_of⟩⟩
def b_read_header : Ss := (.cons (.asg (.nm 3) (.call 12 (.cons (.var 0) (.cons (.var 1) .nil)))) (.cons (.cond (.or (.not (.call 7 (.cons (.var 2) (.cons (.call 9 (.cons (.var 3) .nil)) .nil)))) (.cmp .ne (.blt .len (.cons (.var 2) .nil)) (.call 9 (.cons (.var 3) .nil)))) (.cons .never .nil) .nil) (.cons (.ret (.call 10 (.cons (.var 3) (.cons (.var 2) .nil)))) .nil)))
def e_read_header : Ent := ⟨"read_header", top 33, ["headers", "index", "taken"], ["headers", "index", "taken", "fields"], [(["taken", "index", "headers"], [2, 1, 0])], ⟨3, 4, b_read_header⟩⟩
def b_write_header : Ss := (.cons (.asg (.nm 3) (.call 12 (.cons (.var 0) (.cons (.var 1) .nil)))) (.cons (.cond (.not (.call 8 (.cons (.var 3) (.cons (.var 2) .nil)))) (.cons .never .nil) .nil) (.cons (.ret (.call 11 (.cons (.var 3) (.cons (.var 2) .nil)))) .nil)))
def e_write_header : Ent := ⟨"write_header", top 34, ["headers", "index", "words"], ["headers", "index", "words", "fields"], [(["words", "index", "headers"], [2, 1, 0])], ⟨3, 4, b_write_header⟩⟩
def b__law_jar : Ss := (.cons (.asg (.nm 2) (.bin .add (.c (.int 5237)) (.bin .mul (.c (.int 7919)) (.var 1)))) (.cons (.loop .seq (.cons (.sl (.var 0) .nil (.cons (.c (.int 10)) .nil)) .nil) (.nm 3) (.cons (.asg (.nm 2) (.bin .mod (.blt .int (.cons (.bin .add (.bin .add (.bin .mul (.var 2) (.c (.int 52361))) (.bin .mul (.bin .mod (.blt .int (.cons (.var 3) .nil)) (.c (.int 2147483399))) (.c (.int 11)))) (.c (.int 3))) .nil)) (.c (.int 2147483399)))) .nil)) (.cons (.asg (.nm 4) (.ite (.cmp .lt (.var 1) (.blt .len (.cons (.var 0) .nil))) (.blt .int (.cons (.idx (.var 0) (.var 1)) .nil)) (.c (.int 0)))) (.cons (.ret (.lst (.cons (.ite (.or (.cmp .lt (.var 4) (.c (.int 0))) (.cmp .ge (.var 4) (.bin .pow (.c (.int 10)) (.c (.int 15))))) (.blt .abs (.cons (.var 4) .nil)) (.c (.int 0))) (.cons (.var 2) (.cons (.c (.int 0)) .nil))))) .nil))))
def e__law_jar : Ent := ⟨"_law_jar", top 36, ["_law_script", "_law_turn"], ["_law_script", "_law_turn", "_law_mixed", "_law_cell", "_law_own"], [], ⟨2, 5, b__law_jar⟩⟩
def b__law_dip : Ss := (.cons (.cond (.cmp .gt (.idx (.var 0) (.c (.int 0))) (.c (.int 0))) (.cons (.subv (.var 0) (.c (.int 0)) 3 (.blt .divmod (.cons (.idx (.var 0) (.c (.int 0))) (.cons (.var 1) .nil)))) (.cons (.ret (.var 3)) .nil)) .nil) (.cons (.sub (.var 0) (.c (.int 2)) (.bin .add (.idx (.var 0) (.c (.int 2))) (.c (.int 1)))) (.cons (.asg (.nm 2) (.bin .mod (.blt .int (.cons (.bin .add (.idx (.var 0) (.c (.int 1))) (.bin .mul (.c (.int 28657)) (.idx (.var 0) (.c (.int 2))))) .nil)) (.c (.int 2147483399)))) (.cons (.sub (.var 0) (.c (.int 1)) (.bin .mod (.blt .int (.cons (.bin .add (.bin .mul (.var 2) (.bin .add (.bin .mod (.blt .int (.cons (.var 2) .nil)) (.c (.int 5003))) (.c (.int 48271)))) (.bin .mul (.c (.int 17)) (.idx (.var 0) (.c (.int 2))))) .nil)) (.c (.int 2147483399)))) (.cons (.ret (.bin .mod (.blt .int (.cons (.bin .fdv (.idx (.var 0) (.c (.int 1))) (.c (.int 613))) .nil)) (.var 1))) .nil)))))
def e__law_dip : Ent := ⟨"_law_dip", top 37, ["_law_jar_here", "_law_top"], ["_law_jar_here", "_law_top", "_law_stirred", "_law_figure"], [], ⟨2, 4, b__law_dip⟩⟩
def b__law_one_of : Ss := (.cons (.ret (.idx (.var 1) (.call 17 (.cons (.var 0) (.cons (.blt .len (.cons (.var 1) .nil)) .nil))))) .nil)
def e__law_one_of : Ent := ⟨"_law_one_of", top 38, ["_law_jar_here", "_law_some"], ["_law_jar_here", "_law_some"], [], ⟨2, 2, b__law_one_of⟩⟩
def b__law_kept : Ss := (.cons (.asg (.nm 0) (.c (.str "header local state read accept refuse go by case else order register action param table key exact prefix "))) (.cons (.asg (.nm 0) (.bin .add (.var 0) (.c (.str "mask range default room control end set put strike touch add greatest least or into apply if then ")))) (.cons (.ret (.split (.bin .add (.var 0) (.c (.str "not both and either held in out gone entry to"))) (.c (.str " ")))) .nil)))
def e__law_kept : Ent := ⟨"_law_kept", top 39, [], ["_law_words_here"], [], ⟨0, 1, b__law_kept⟩⟩
def b__law_name : Ss := (.cons (.loop .rng (.cons (.c (.int 12)) .nil) (.nm 2) (.cons (.asg (.nm 3) (.call 18 (.cons (.var 0) (.cons (.lst (.cons (.c (.str "a")) (.cons (.c (.str "b")) (.cons (.c (.str "c")) (.cons (.c (.str "x")) (.cons (.c (.str "tag")) (.cons (.c (.str "tage")) (.cons (.c (.str "a1")) (.cons (.c (.str "a_")) (.cons (.c (.str "aa")) (.cons (.c (.str "ab")) (.cons (.c (.str "ttl")) .nil)))))))))))) .nil)))) (.cons (.cond (.cmp .eq (.call 17 (.cons (.var 0) (.cons (.c (.int 3)) .nil))) (.c (.int 0))) (.cons (.asg (.nm 3) (.call 18 (.cons (.var 0) (.cons (.lst (.cons (.c (.str "a")) (.cons (.c (.str "b")) (.cons (.c (.str "m")) (.cons (.c (.str "t")) (.cons (.c (.str "z")) .nil)))))) .nil)))) (.cons (.loop .rng (.cons (.call 17 (.cons (.var 0) (.cons (.c (.int 12)) .nil))) .nil) (.nm 4) (.cons (.asg (.nm 3) (.bin .add (.var 3) (.call 18 (.cons (.var 0) (.cons (.c (.str "abyz059_")) .nil))))) .nil)) .nil)) .nil) (.cons (.cond (.and (.cmp .nin (.var 3) (.var 1)) (.cmp .nin (.var 3) (.call 19 .nil))) (.cons (.ret (.var 3)) .nil) .nil) .nil)))) (.cons (.ret (.idx (.lc .seq (.cons (.lc .rng (.cons (.c (.int 60)) .nil) (.nm 6) (.c (.bl true)) (.bin .add (.c (.str "q")) (.blt .str (.cons (.var 6) .nil))) [6]) .nil) (.nm 5) (.cmp .nin (.var 5) (.var 1)) (.var 5) [5]) (.c (.int 0)))) .nil))
def e__law_name : Ent := ⟨"_law_name", top 40, ["_law_jar_here", "_law_taken"], ["_law_jar_here", "_law_taken", "_law_turn", "_law_word_here", "_law_more", "_law_each", "_law_k"], [], ⟨2, 7, b__law_name⟩⟩
def b__law_word : Ss := (.cons (.asg (.tu [(.nm 3), (.nm 4)]) (.tup (.cons (.bin .sub (.bin .shl (.c (.int 1)) (.var 1)) (.c (.int 1))) (.cons (.call 17 (.cons (.var 0) (.cons (.c (.int 6)) .nil))) .nil)))) (.cons (.cond (.cmp .lt (.var 4) (.c (.int 2))) (.cons (.ret (.call 17 (.cons (.var 0) (.cons (.bin .add (.blt .min (.cons (.var 3) (.cons (.c (.int 7)) .nil))) (.c (.int 1))) .nil)))) .nil) .nil) (.cons (.cond (.cmp .eq (.var 4) (.c (.int 2))) (.cons (.ret (.bin .sub (.var 3) (.call 17 (.cons (.var 0) (.cons (.bin .add (.blt .min (.cons (.var 3) (.cons (.c (.int 3)) .nil))) (.c (.int 1))) .nil))))) .nil) .nil) (.cons (.cond (.cmp .eq (.var 4) (.c (.int 3))) (.cons (.ret (.bin .shl (.c (.int 1)) (.call 17 (.cons (.var 0) (.cons (.var 1) .nil))))) .nil) .nil) (.cons (.asg (.nm 2) (.call 17 (.cons (.var 0) (.cons (.c (.int 65536)) .nil)))) (.cons (.ret (.bin .band (.bin .bor (.bin .shl (.var 2) (.c (.int 16))) (.call 17 (.cons (.var 0) (.cons (.c (.int 65536)) .nil)))) (.var 3))) .nil))))))
def e__law_word : Ent := ⟨"_law_word", top 41, ["_law_jar_here", "_law_width"], ["_law_jar_here", "_law_width", "_law_high", "_law_top", "_law_way"], [], ⟨2, 5, b__law_word⟩⟩
def b__law_fields : Ss := (.cons (.asg (.tu [(.nm 3), (.nm 4)]) (.tup (.cons (.bin .mul (.c (.int 8)) (.var 1)) (.cons (.lst .nil) .nil)))) (.cons (.loop .rng (.cons (.c (.int 12)) .nil) (.nm 2) (.cons (.cond (.cmp .gt (.var 3) (.c (.int 0))) (.cons (.asg (.tu [(.nm 6), (.nm 7)]) (.tup (.cons (.blt .max (.cons (.c (.int 1)) (.cons (.bin .sub (.var 3) (.bin .mul (.c (.int 32)) (.bin .sub (.c (.int 11)) (.var 2)))) .nil))) (.cons (.blt .min (.cons (.c (.int 32)) (.cons (.var 3) .nil))) .nil)))) (.cons (.asg (.nm 5) (.call 18 (.cons (.var 0) (.cons (.lst (.cons (.c (.int 1)) (.cons (.c (.int 2)) (.cons (.c (.int 3)) (.cons (.c (.int 4)) (.cons (.c (.int 5)) (.cons (.c (.int 7)) (.cons (.c (.int 8)) (.cons (.c (.int 8)) (.cons (.c (.int 8)) (.cons (.c (.int 9)) (.cons (.c (.int 16)) (.cons (.c (.int 24)) (.cons (.c (.int 31)) (.cons (.c (.int 32)) (.cons (.c (.int 128)) .nil)))))))))))))))) .nil)))) (.cons (.asg (.nm 5) (.blt .min (.cons (.var 7) (.cons (.blt .max (.cons (.var 6) (.cons (.var 5) .nil))) .nil)))) (.cons (.ex (.meth .app (.var 4) (.tup (.cons (.call 20 (.cons (.var 0) (.cons (.lc .seq (.cons (.var 4) .nil) (.tu [(.nm 8), (.nm 9)]) (.c (.bl true)) (.var 8) [8, 9]) .nil))) (.cons (.var 5) .nil))))) (.cons (.asg (.nm 3) (.bin .sub (.var 3) (.var 5))) .nil))))) .nil) .nil)) (.cons (.ret (.blt .tuple (.cons (.var 4) .nil))) .nil)))
def e__law_fields : Ent := ⟨"_law_fields", top 42, ["_law_jar_here", "_law_size_here"], ["_law_jar_here", "_law_size_here", "_law_slot", "_law_left", "_law_found", "_law_width", "_law_low", "_law_high", "_law_name_here", "_law_wide"], [], ⟨2, 10, b__law_fields⟩⟩
def b__law_headers : Ss := (.cons (.asg (.nm 3) (.lst .nil)) (.cons (.loop .rng (.cons (.bin .add (.var 1) (.call 17 (.cons (.var 0) (.cons (.bin .add (.bin .sub (.var 2) (.var 1)) (.c (.int 1))) .nil)))) .nil) (.nm 4) (.cons (.asg (.nm 5) (.call 18 (.cons (.var 0) (.cons (.lst (.cons (.c (.int 1)) (.cons (.c (.int 1)) (.cons (.c (.int 1)) (.cons (.c (.int 1)) (.cons (.c (.int 2)) (.cons (.c (.int 2)) (.cons (.c (.int 3)) (.cons (.c (.int 4)) (.cons (.c (.int 1)) (.cons (.c (.int 16)) .nil))))))))))) .nil)))) (.cons (.ex (.meth .app (.var 3) (.tup (.cons (.call 20 (.cons (.var 0) (.cons (.lc .seq (.cons (.var 3) .nil) (.tu [(.nm 6), (.nm 7)]) (.c (.bl true)) (.var 6) [6, 7]) .nil))) (.cons (.call 22 (.cons (.var 0) (.cons (.var 5) .nil))) .nil))))) .nil))) (.cons (.ret (.blt .tuple (.cons (.var 3) .nil))) .nil)))
def e__law_headers : Ent := ⟨"_law_headers", top 43, ["_law_jar_here", "_law_least", "_law_most"], ["_law_jar_here", "_law_least", "_law_most", "_law_found", "_law_turn", "_law_size_here", "_law_name_here", "_law_fields_here"], [], ⟨3, 8, b__law_headers⟩⟩
def b__law_size : Ss := (.cons (.ret (.bin .fdv (.blt .sum (.cons (.lc .seq (.cons (.var 0) .nil) (.tu [(.nm 1), (.nm 2)]) (.c (.bl true)) (.var 2) [1, 2]) .nil)) (.c (.int 8)))) .nil)
def e__law_size : Ent := ⟨"_law_size", top 44, ["_law_fields_here"], ["_law_fields_here", "_law_field", "_law_width"], [], ⟨1, 3, b__law_size⟩⟩
def b__law_read : Ss := (.cons (.asg (.tu [(.nm 3), (.nm 4), (.nm 5)]) (.tup (.cons (.lst .nil) (.cons (.lst .nil) (.cons (.c (.int 0)) .nil))))) (.cons (.loop .seq (.cons (.var 1) .nil) (.nm 2) (.cons (.loop .rng3 (.cons (.c (.int 7)) (.cons (.neg (.c (.int 1))) (.cons (.neg (.c (.int 1))) .nil))) (.nm 6) (.cons (.ex (.meth .app (.var 3) (.bin .band (.bin .shr (.var 2) (.var 6)) (.c (.int 1))))) .nil)) .nil)) (.cons (.loop .seq (.cons (.var 0) .nil) (.tu [(.nm 7), (.nm 8)]) (.cons (.asg (.nm 9) (.c (.int 0))) (.cons (.loop .seq (.cons (.sl (.var 3) (.cons (.var 5) .nil) (.cons (.bin .add (.var 5) (.var 8)) .nil)) .nil) (.nm 10) (.cons (.asg (.nm 9) (.bin .add (.bin .mul (.c (.int 2)) (.var 9)) (.var 10))) .nil)) (.cons (.ex (.meth .app (.var 4) (.var 9))) (.cons (.asg (.nm 5) (.bin .add (.var 5) (.var 8))) .nil))))) (.cons (.ret (.blt .tuple (.cons (.var 4) .nil))) .nil))))
def e__law_read : Ent := ⟨"_law_read", top 45, ["_law_fields_here", "_law_taken"], ["_law_fields_here", "_law_taken", "_law_byte", "_law_bits", "_law_found", "_law_at", "_law_k", "_law_field", "_law_width", "_law_word_here", "_law_bit"], [], ⟨2, 11, b__law_read⟩⟩
def b__law_written : Ss := (.cons (.asg (.tu [(.nm 3), (.nm 4)]) (.tup (.cons (.lst .nil) (.cons (.lst .nil) .nil)))) (.cons (.loop .zip (.cons (.var 0) (.cons (.var 1) .nil)) (.tu [(.tu [(.nm 9), (.nm 10)]), (.nm 5)]) (.cons (.loop .rng3 (.cons (.bin .sub (.var 10) (.c (.int 1))) (.cons (.neg (.c (.int 1))) (.cons (.neg (.c (.int 1))) .nil))) (.nm 6) (.cons (.ex (.meth .app (.var 3) (.bin .band (.bin .shr (.var 5) (.var 6)) (.c (.int 1))))) .nil)) .nil)) (.cons (.loop .rng3 (.cons (.c (.int 0)) (.cons (.blt .len (.cons (.var 3) .nil)) (.cons (.c (.int 8)) .nil))) (.nm 2) (.cons (.asg (.nm 7) (.c (.int 0))) (.cons (.loop .seq (.cons (.sl (.var 3) (.cons (.var 2) .nil) (.cons (.bin .add (.var 2) (.c (.int 8))) .nil)) .nil) (.nm 8) (.cons (.asg (.nm 7) (.bin .add (.bin .mul (.c (.int 2)) (.var 7)) (.var 8))) .nil)) (.cons (.ex (.meth .app (.var 4) (.var 7))) .nil)))) (.cons (.ret (.blt .tuple (.cons (.var 4) .nil))) .nil))))
def e__law_written : Ent := ⟨"_law_written", top 46, ["_law_fields_here", "_law_words_here"], ["_law_fields_here", "_law_words_here", "_law_at", "_law_bits", "_law_found", "_law_word_here", "_law_k", "_law_byte", "_law_bit", "_law_field", "_law_width"], [], ⟨2, 11, b__law_written⟩⟩
def b__law_bytes : Ss := (.cons (.asg (.nm 2) (.lst .nil)) (.cons (.loop .rng (.cons (.var 1) .nil) (.nm 3) (.cons (.ex (.meth .app (.var 2) (.ite (.cmp .gt (.call 17 (.cons (.var 0) (.cons (.c (.int 3)) .nil))) (.c (.int 0))) (.call 18 (.cons (.var 0) (.cons (.lst (.cons (.c (.int 0)) (.cons (.c (.int 1)) (.cons (.c (.int 2)) (.cons (.c (.int 7)) (.cons (.c (.int 35)) (.cons (.c (.int 128)) (.cons (.c (.int 254)) (.cons (.c (.int 255)) .nil))))))))) .nil))) (.call 17 (.cons (.var 0) (.cons (.c (.int 256)) .nil)))))) .nil)) (.cons (.ret (.blt .tuple (.cons (.var 2) .nil))) .nil)))
def e__law_bytes : Ent := ⟨"_law_bytes", top 47, ["_law_jar_here", "_law_many"], ["_law_jar_here", "_law_many", "_law_found", "_law_at"], [], ⟨2, 4, b__law_bytes⟩⟩
def b__law_words : Ss := (.cons (.asg (.nm 2) (.lst .nil)) (.cons (.loop .seq (.cons (.var 1) .nil) (.tu [(.nm 3), (.nm 4)]) (.cons (.ex (.meth .app (.var 2) (.call 21 (.cons (.var 0) (.cons (.var 4) .nil))))) .nil)) (.cons (.ret (.blt .tuple (.cons (.var 2) .nil))) .nil)))
def e__law_words : Ent := ⟨"_law_words", top 48, ["_law_jar_here", "_law_fields_here"], ["_law_jar_here", "_law_fields_here", "_law_found", "_law_field", "_law_width"], [], ⟨2, 5, b__law_words⟩⟩
def b__law_there : Ss := (.cons (.cond (.or (.cmp .ne (.blt .repr (.cons (.call 14 (.cons (.var 0) (.cons (.var 1) (.cons (.var 2) .nil)))) .nil)) (.blt .repr (.cons (.var 3) .nil))) (.cmp .ne (.blt .repr (.cons (.call 15 (.cons (.var 0) (.cons (.var 1) (.cons (.var 3) .nil)))) .nil)) (.blt .repr (.cons (.var 2) .nil)))) (.cons (.ret (.c (.bl false))) .nil) .nil) (.cons (.cond (.cmp .ne (.blt .repr (.cons (.callK 14 [2, 1, 0] (.cons (.var 2) (.cons (.var 1) (.cons (.var 0) .nil)))) .nil)) (.blt .repr (.cons (.var 3) .nil))) (.cons (.ret (.c (.bl false))) .nil) .nil) (.cons (.ret (.cmp .eq (.blt .repr (.cons (.callK 15 [2, 1, 0] (.cons (.var 3) (.cons (.var 1) (.cons (.var 0) .nil)))) .nil)) (.blt .repr (.cons (.var 2) .nil)))) .nil)))
def e__law_there : Ent := ⟨"_law_there", top 49, ["_law_headers_here", "_law_at", "_law_taken", "_law_words_here"], ["_law_headers_here", "_law_at", "_law_taken", "_law_words_here"], [], ⟨4, 4, b__law_there⟩⟩
def b__law_single : Ss := (.cons (.asg (.nm 2) (.idx (.idx (.var 0) (.var 1)) (.c (.int 1)))) (.cons (.asg (.nm 3) (.bin .mul (.lst (.cons (.c (.int 0)) .nil)) (.blt .len (.cons (.var 2) .nil)))) (.cons (.loop .rng (.cons (.blt .len (.cons (.var 2) .nil)) .nil) (.nm 4) (.cons (.loop .rng (.cons (.idx (.idx (.var 2) (.var 4)) (.c (.int 1))) .nil) (.nm 6) (.cons (.asg (.nm 8) (.blt .tuple (.cons (.bin .add (.bin .add (.sl (.var 3) .nil (.cons (.var 4) .nil)) (.lst (.cons (.bin .shl (.c (.int 1)) (.var 6)) .nil))) (.sl (.var 3) (.cons (.bin .add (.var 4) (.c (.int 1))) .nil) .nil)) .nil))) (.cons (.cond (.not (.call 29 (.cons (.var 0) (.cons (.var 1) (.cons (.call 26 (.cons (.var 2) (.cons (.var 8) .nil))) (.cons (.var 8) .nil)))))) (.cons (.ret (.c (.bl false))) .nil) .nil) .nil))) .nil)) (.cons (.asg (.nm 5) (.call 24 (.cons (.var 2) .nil))) (.cons (.loop .rng (.cons (.bin .mul (.c (.int 8)) (.var 5)) .nil) (.nm 6) (.cons (.asg (.nm 7) (.bin .add (.bin .add (.bin .mul (.tup (.cons (.c (.int 0)) .nil)) (.bin .fdv (.var 6) (.c (.int 8)))) (.tup (.cons (.bin .shr (.c (.int 128)) (.bin .mod (.blt .int (.cons (.var 6) .nil)) (.c (.int 8)))) .nil))) (.bin .mul (.tup (.cons (.c (.int 0)) .nil)) (.bin .sub (.bin .sub (.var 5) (.c (.int 1))) (.bin .fdv (.var 6) (.c (.int 8))))))) (.cons (.cond (.not (.call 29 (.cons (.var 0) (.cons (.var 1) (.cons (.var 7) (.cons (.call 25 (.cons (.var 2) (.cons (.var 7) .nil))) .nil)))))) (.cons (.ret (.c (.bl false))) .nil) .nil) .nil))) (.cons (.ret (.c (.bl true))) .nil))))))
def e__law_single : Ent := ⟨"_law_single", top 50, ["_law_headers_here", "_law_at"], ["_law_headers_here", "_law_at", "_law_fields_here", "_law_blank", "_law_spot", "_law_size_here", "_law_k", "_law_taken", "_law_words_here"], [], ⟨2, 9, b__law_single⟩⟩
def b__law_right : Ss := (.cons (.asg (.nm 1) (.call 23 (.cons (.var 0) (.cons (.c (.int 1)) (.cons (.c (.int 6)) .nil))))) (.cons (.loop .rng (.cons (.blt .len (.cons (.var 1) .nil)) .nil) (.nm 2) (.cons (.asg (.nm 3) (.idx (.idx (.var 1) (.var 2)) (.c (.int 1)))) (.cons (.asg (.nm 4) (.call 24 (.cons (.var 3) .nil))) (.cons (.cond (.cmp .ne (.blt .repr (.cons (.lst (.cons (.call 13 (.cons (.var 1) (.cons (.var 2) .nil))) (.cons (.callK 13 [1, 0] (.cons (.var 2) (.cons (.var 1) .nil))) .nil))) .nil)) (.blt .repr (.cons (.lst (.cons (.var 4) (.cons (.var 4) .nil))) .nil))) (.cons (.ret (.c (.bl false))) .nil) .nil) (.cons (.loop .rng (.cons (.c (.int 3)) .nil) (.nm 5) (.cons (.asg (.tu [(.nm 7), (.nm 8)]) (.tup (.cons (.call 27 (.cons (.var 0) (.cons (.var 4) .nil))) (.cons (.call 28 (.cons (.var 0) (.cons (.var 3) .nil))) .nil)))) (.cons (.cond (.not (.call 29 (.cons (.var 1) (.cons (.var 2) (.cons (.var 7) (.cons (.call 25 (.cons (.var 3) (.cons (.var 7) .nil))) .nil)))))) (.cons (.ret (.c (.bl false))) .nil) .nil) (.cons (.cond (.not (.call 29 (.cons (.var 1) (.cons (.var 2) (.cons (.call 26 (.cons (.var 3) (.cons (.var 8) .nil))) (.cons (.var 8) .nil)))))) (.cons (.ret (.c (.bl false))) .nil) .nil) .nil)))) (.cons (.asg (.nm 6) (.blt .tuple (.cons (.lc .seq (.cons (.var 3) .nil) (.tu [(.nm 9), (.nm 10)]) (.c (.bl true)) (.bin .sub (.bin .shl (.c (.int 1)) (.var 10)) (.c (.int 1))) [9, 10]) .nil))) (.cons (.cond (.not (.call 29 (.cons (.var 1) (.cons (.var 2) (.cons (.bin .mul (.tup (.cons (.c (.int 255)) .nil)) (.var 4)) (.cons (.var 6) .nil)))))) (.cons (.ret (.c (.bl false))) .nil) .nil) .nil))))))) (.cons (.ret (.call 30 (.cons (.var 1) (.cons (.call 17 (.cons (.var 0) (.cons (.blt .len (.cons (.var 1) .nil)) .nil))) .nil)))) .nil)))
def e__law_right : Ent := ⟨"_law_right", top 51, ["_law_jar_here"], ["_law_jar_here", "_law_headers_here", "_law_at", "_law_fields_here", "_law_size_here", "_law_turn", "_law_full", "_law_taken", "_law_words_here", "_law_field", "_law_width"], [], ⟨1, 11, b__law_right⟩⟩
def b_law : Ss := (.cons (.ret (.blt .all (.cons (.lc .rng (.cons (.blt .max (.cons (.c (.int 1)) (.cons (.blt .min (.cons (.blt .len (.cons (.var 0) .nil)) (.cons (.c (.int 3)) .nil))) .nil))) .nil) (.nm 1) (.c (.bl true)) (.call 31 (.cons (.call 16 (.cons (.var 0) (.cons (.var 1) .nil))) .nil)) [1]) .nil))) .nil)
def e_law : Ent := ⟨"law", top 52, ["_law_script"], ["_law_script", "_law_turn"], [], ⟨1, 2, b_law⟩⟩
def ents : List Ent := [e_is_name, e_are_unlike, e_is_whole, e_is_between, e_are_pairs, e_are_fields, e_are_headers_by, e_are_bytes, e_are_field_words, e_size_by, e_read_by, e_written_by, e_fields_at, e_size_of, e_read_header, e_write_header, e__law_jar, e__law_dip, e__law_one_of, e__law_kept, e__law_name, e__law_word, e__law_fields, e__law_headers, e__law_size, e__law_read, e__law_written, e__law_bytes, e__law_words, e__law_there, e__law_single, e__law_right, e_law]
def cons : List (Str × D) := [("LETTERS", .str "abcdefghijklmnopqrstuvwxyz"), ("FIGURES", .str "0123456789"), ("MOST_SIGNS", .int 12), ("KEPT_WORDS", .tup [.str "header", .str "local", .str "state", .str "read", .str "accept", .str "refuse", .str "go", .str "by", .str "case", .str "else", .str "order", .str "register", .str "action", .str "param", .str "table", .str "key", .str "exact", .str "prefix", .str "mask", .str "range", .str "default", .str "room", .str "control", .str "end", .str "set", .str "put", .str "strike", .str "touch", .str "add", .str "greatest", .str "least", .str "or", .str "into", .str "apply", .str "if", .str "then", .str "not", .str "both", .str "and", .str "either", .str "held", .str "in", .str "out", .str "gone", .str "entry", .str "to"]), ("MOST_WIDTH", .int 32), ("MOST_HEADERS", .int 6), ("MOST_FIELDS", .int 12), ("MOST_BITS", .int 128)]
def G : List (Str × Gk) := gOf ents cons
theorem t_is_name : TxtOk G e_is_name := ⟨by kernel_rfl, ⟨rfl, rfl, rfl, by decide +kernel, rfl, by decide +kernel, by decide +kernel⟩, rfl, rfl, fun _ _ _ _ _ _ us hl => match us, hl with | [_], _ => rfl, fun p hp => nomatch hp⟩
theorem t_are_unlike : TxtOk G e_are_unlike := ⟨by kernel_rfl, ⟨rfl, rfl, rfl, by decide +kernel, rfl, by decide +kernel, by decide +kernel⟩, rfl, rfl, fun _ _ _ _ _ _ us hl => match us, hl with | [_], _ => rfl, fun p hp => nomatch hp⟩
theorem t_is_whole : TxtOk G e_is_whole := ⟨by kernel_rfl, ⟨rfl, rfl, rfl, by decide +kernel, rfl, by decide +kernel, by decide +kernel⟩, rfl, rfl, fun _ _ _ _ _ _ us hl => match us, hl with | [_], _ => rfl, fun p hp => nomatch hp⟩
theorem t_is_between : TxtOk G e_is_between := ⟨by kernel_rfl, ⟨rfl, rfl, rfl, by decide +kernel, rfl, by decide +kernel, by decide +kernel⟩, rfl, rfl, fun _ _ _ _ _ _ us hl => match us, hl with | [_, _, _], _ => rfl, fun p hp => nomatch hp⟩
theorem t_are_pairs : TxtOk G e_are_pairs := ⟨by kernel_rfl, ⟨rfl, rfl, rfl, by decide +kernel, rfl, by decide +kernel, by decide +kernel⟩, rfl, rfl, fun _ _ _ _ _ _ us hl => match us, hl with | [_, _, _], _ => rfl, fun p hp => nomatch hp⟩
theorem t_are_fields : TxtOk G e_are_fields := ⟨by kernel_rfl, ⟨rfl, rfl, rfl, by decide +kernel, rfl, by decide +kernel, by decide +kernel⟩, rfl, rfl, fun _ _ _ _ _ _ us hl => match us, hl with | [_], _ => rfl, fun p hp => nomatch hp⟩
theorem t_are_headers_by : TxtOk G e_are_headers_by := ⟨by kernel_rfl, ⟨rfl, rfl, rfl, by decide +kernel, rfl, by decide +kernel, by decide +kernel⟩, rfl, rfl, fun _ _ _ _ _ _ us hl => match us, hl with | [_], _ => rfl, fun p hp => nomatch hp⟩
theorem t_are_bytes : TxtOk G e_are_bytes := ⟨by kernel_rfl, ⟨rfl, rfl, rfl, by decide +kernel, rfl, by decide +kernel, by decide +kernel⟩, rfl, rfl, fun _ _ _ _ _ _ us hl => match us, hl with | [_, _], _ => rfl, fun p hp => nomatch hp⟩
theorem t_are_field_words : TxtOk G e_are_field_words := ⟨by kernel_rfl, ⟨rfl, rfl, rfl, by decide +kernel, rfl, by decide +kernel, by decide +kernel⟩, rfl, rfl, fun _ _ _ _ _ _ us hl => match us, hl with | [_, _], _ => rfl, fun p hp => nomatch hp⟩
theorem t_size_by : TxtOk G e_size_by := ⟨by kernel_rfl, ⟨rfl, rfl, rfl, by decide +kernel, rfl, by decide +kernel, by decide +kernel⟩, rfl, rfl, fun _ _ _ _ _ _ us hl => match us, hl with | [_], _ => rfl, fun p hp => nomatch hp⟩
theorem t_read_by : TxtOk G e_read_by := ⟨by kernel_rfl, ⟨rfl, rfl, rfl, by decide +kernel, rfl, by decide +kernel, by decide +kernel⟩, rfl, rfl, fun _ _ _ _ _ _ us hl => match us, hl with | [_, _], _ => rfl, fun p hp => nomatch hp⟩
theorem t_written_by : TxtOk G e_written_by := ⟨by kernel_rfl, ⟨rfl, rfl, rfl, by decide +kernel, rfl, by decide +kernel, by decide +kernel⟩, rfl, rfl, fun _ _ _ _ _ _ us hl => match us, hl with | [_, _], _ => rfl, fun p hp => nomatch hp⟩
theorem t_fields_at : TxtOk G e_fields_at := ⟨by kernel_rfl, ⟨rfl, rfl, rfl, by decide +kernel, rfl, by decide +kernel, by decide +kernel⟩, rfl, rfl, fun _ _ _ _ _ _ us hl => match us, hl with | [_, _], _ => rfl, fun p hp => nomatch hp⟩
theorem t_size_of : TxtOk G e_size_of := ⟨by kernel_rfl, ⟨rfl, rfl, rfl, by decide +kernel, rfl, by decide +kernel, by decide +kernel⟩, rfl, rfl, fun _ _ _ _ _ _ us hl => match us, hl with | [_, _], _ => rfl, fun p hp => by
  simp only [e_size_of] at hp
  rcases List.mem_cons.mp hp with rfl | hp
  · intro _ _ _ _ _ _ us ws hl hw
    match us, hl with
    | [_, _], _ => cases hw; rfl
  cases hp⟩
theorem t_read_header : TxtOk G e_read_header := ⟨by kernel_rfl, ⟨rfl, rfl, rfl, by decide +kernel, rfl, by decide +kernel, by decide +kernel⟩, rfl, rfl, fun _ _ _ _ _ _ us hl => match us, hl with | [_, _, _], _ => rfl, fun p hp => by
  simp only [e_read_header] at hp
  rcases List.mem_cons.mp hp with rfl | hp
  · intro _ _ _ _ _ _ us ws hl hw
    match us, hl with
    | [_, _, _], _ => cases hw; rfl
  cases hp⟩
theorem t_write_header : TxtOk G e_write_header := ⟨by kernel_rfl, ⟨rfl, rfl, rfl, by decide +kernel, rfl, by decide +kernel, by decide +kernel⟩, rfl, rfl, fun _ _ _ _ _ _ us hl => match us, hl with | [_, _, _], _ => rfl, fun p hp => by
  simp only [e_write_header] at hp
  rcases List.mem_cons.mp hp with rfl | hp
  · intro _ _ _ _ _ _ us ws hl hw
    match us, hl with
    | [_, _, _], _ => cases hw; rfl
  cases hp⟩
theorem t__law_jar : TxtOk G e__law_jar := ⟨by kernel_rfl, ⟨rfl, rfl, rfl, by decide +kernel, rfl, by decide +kernel, by decide +kernel⟩, rfl, rfl, fun _ _ _ _ _ _ us hl => match us, hl with | [_, _], _ => rfl, fun p hp => nomatch hp⟩
theorem t__law_dip : TxtOk G e__law_dip := ⟨by kernel_rfl, ⟨rfl, rfl, rfl, by decide +kernel, rfl, by decide +kernel, by decide +kernel⟩, rfl, rfl, fun _ _ _ _ _ _ us hl => match us, hl with | [_, _], _ => rfl, fun p hp => nomatch hp⟩
theorem t__law_one_of : TxtOk G e__law_one_of := ⟨by kernel_rfl, ⟨rfl, rfl, rfl, by decide +kernel, rfl, by decide +kernel, by decide +kernel⟩, rfl, rfl, fun _ _ _ _ _ _ us hl => match us, hl with | [_, _], _ => rfl, fun p hp => nomatch hp⟩
theorem t__law_kept : TxtOk G e__law_kept := ⟨by kernel_rfl, ⟨rfl, rfl, rfl, by decide +kernel, rfl, by decide +kernel, by decide +kernel⟩, rfl, rfl, fun _ _ _ _ _ _ us hl => match us, hl with | [], _ => rfl, fun p hp => nomatch hp⟩
theorem t__law_name : TxtOk G e__law_name := ⟨by kernel_rfl, ⟨rfl, rfl, rfl, by decide +kernel, rfl, by decide +kernel, by decide +kernel⟩, rfl, rfl, fun _ _ _ _ _ _ us hl => match us, hl with | [_, _], _ => rfl, fun p hp => nomatch hp⟩
theorem t__law_word : TxtOk G e__law_word := ⟨by kernel_rfl, ⟨rfl, rfl, rfl, by decide +kernel, rfl, by decide +kernel, by decide +kernel⟩, rfl, rfl, fun _ _ _ _ _ _ us hl => match us, hl with | [_, _], _ => rfl, fun p hp => nomatch hp⟩
theorem t__law_fields : TxtOk G e__law_fields := ⟨by kernel_rfl, ⟨rfl, rfl, rfl, by decide +kernel, rfl, by decide +kernel, by decide +kernel⟩, rfl, rfl, fun _ _ _ _ _ _ us hl => match us, hl with | [_, _], _ => rfl, fun p hp => nomatch hp⟩
theorem t__law_headers : TxtOk G e__law_headers := ⟨by kernel_rfl, ⟨rfl, rfl, rfl, by decide +kernel, rfl, by decide +kernel, by decide +kernel⟩, rfl, rfl, fun _ _ _ _ _ _ us hl => match us, hl with | [_, _, _], _ => rfl, fun p hp => nomatch hp⟩
theorem t__law_size : TxtOk G e__law_size := ⟨by kernel_rfl, ⟨rfl, rfl, rfl, by decide +kernel, rfl, by decide +kernel, by decide +kernel⟩, rfl, rfl, fun _ _ _ _ _ _ us hl => match us, hl with | [_], _ => rfl, fun p hp => nomatch hp⟩
theorem t__law_read : TxtOk G e__law_read := ⟨by kernel_rfl, ⟨rfl, rfl, rfl, by decide +kernel, rfl, by decide +kernel, by decide +kernel⟩, rfl, rfl, fun _ _ _ _ _ _ us hl => match us, hl with | [_, _], _ => rfl, fun p hp => nomatch hp⟩
theorem t__law_written : TxtOk G e__law_written := ⟨by kernel_rfl, ⟨rfl, rfl, rfl, by decide +kernel, rfl, by decide +kernel, by decide +kernel⟩, rfl, rfl, fun _ _ _ _ _ _ us hl => match us, hl with | [_, _], _ => rfl, fun p hp => nomatch hp⟩
theorem t__law_bytes : TxtOk G e__law_bytes := ⟨by kernel_rfl, ⟨rfl, rfl, rfl, by decide +kernel, rfl, by decide +kernel, by decide +kernel⟩, rfl, rfl, fun _ _ _ _ _ _ us hl => match us, hl with | [_, _], _ => rfl, fun p hp => nomatch hp⟩
theorem t__law_words : TxtOk G e__law_words := ⟨by kernel_rfl, ⟨rfl, rfl, rfl, by decide +kernel, rfl, by decide +kernel, by decide +kernel⟩, rfl, rfl, fun _ _ _ _ _ _ us hl => match us, hl with | [_, _], _ => rfl, fun p hp => nomatch hp⟩
theorem t__law_there : TxtOk G e__law_there := ⟨by kernel_rfl, ⟨rfl, rfl, rfl, by decide +kernel, rfl, by decide +kernel, by decide +kernel⟩, rfl, rfl, fun _ _ _ _ _ _ us hl => match us, hl with | [_, _, _, _], _ => rfl, fun p hp => nomatch hp⟩
theorem t__law_single : TxtOk G e__law_single := ⟨by kernel_rfl, ⟨rfl, rfl, rfl, by decide +kernel, rfl, by decide +kernel, by decide +kernel⟩, rfl, rfl, fun _ _ _ _ _ _ us hl => match us, hl with | [_, _], _ => rfl, fun p hp => nomatch hp⟩
theorem t__law_right : TxtOk G e__law_right := ⟨by kernel_rfl, ⟨rfl, rfl, rfl, by decide +kernel, rfl, by decide +kernel, by decide +kernel⟩, rfl, rfl, fun _ _ _ _ _ _ us hl => match us, hl with | [_], _ => rfl, fun p hp => nomatch hp⟩
theorem t_law : TxtOk G e_law := ⟨by kernel_rfl, ⟨rfl, rfl, rfl, by decide +kernel, rfl, by decide +kernel, by decide +kernel⟩, rfl, rfl, fun _ _ _ _ _ _ us hl => match us, hl with | [_], _ => rfl, fun p hp => nomatch hp⟩
end Lw
namespace Lw
open PySem L2 MP
abbrev P : List Fn := ents.map Ent.fn
def lets : Str := Str.ofString "abcdefghijklmnopqrstuvwxyz"
def signs : Str := Str.ofString "abcdefghijklmnopqrstuvwxyz" ++ Str.ofString "0123456789" ++ Str.ofString "_"
def keptS : List Str := [Str.ofString "header", Str.ofString "local", Str.ofString "state", Str.ofString "read", Str.ofString "accept", Str.ofString "refuse", Str.ofString "go", Str.ofString "by", Str.ofString "case", Str.ofString "else", Str.ofString "order", Str.ofString "register", Str.ofString "action", Str.ofString "param", Str.ofString "table", Str.ofString "key", Str.ofString "exact", Str.ofString "prefix", Str.ofString "mask", Str.ofString "range", Str.ofString "default", Str.ofString "room", Str.ofString "control", Str.ofString "end", Str.ofString "set", Str.ofString "put", Str.ofString "strike", Str.ofString "touch", Str.ofString "add", Str.ofString "greatest", Str.ofString "least", Str.ofString "or", Str.ofString "into", Str.ofString "apply", Str.ofString "if", Str.ofString "then", Str.ofString "not", Str.ofString "both", Str.ofString "and", Str.ofString "either", Str.ofString "held", Str.ofString "in", Str.ofString "out", Str.ofString "gone", Str.ofString "entry", Str.ofString "to"]
/-- a text that could be a name, of at most so many signs -/
structure Wo (n : Nat) (s : Str) : Prop where
  len : 1 ≤ s.length ∧ s.length ≤ n
  first : ∃ c, s.cps.toList[0]? = some c ∧ c ∈ lets.cps.toList
  all : ∀ c ∈ s.cps.toList, c ∈ signs.cps.toList
structure NameOk (s : Str) : Prop where
  wo : Wo 12 s
  kept : s ∉ keptS
theorem Wo.up {n m : Nat} {s : Str} (h : Wo n s) (hm : n ≤ m) : Wo m s := ⟨⟨h.len.1, Nat.le_trans h.len.2 hm⟩, h.first, h.all⟩
def woB (n : Nat) (s : Str) : Bool := decide (1 ≤ s.length ∧ s.length ≤ n) && ((match s.cps.toList[0]? with
  | some c => decide (c ∈ lets.cps.toList)
  | none => false) && s.cps.toList.all fun c => decide (c ∈ signs.cps.toList))
theorem woB_ok {n : Nat} {s : Str} (h : woB n s = true) : Wo n s := by
  unfold woB at h
  rw [Bool.and_eq_true, Bool.and_eq_true, decide_eq_true_eq] at h
  obtain ⟨h1, h2, h3⟩ := h
  refine ⟨h1, ?_, fun c hc => ?_⟩
  · split at h2
    · rename_i c e
      exact ⟨c, e, of_decide_eq_true h2⟩
    · cases h2
  · rw [List.all_eq_true] at h3
    exact of_decide_eq_true (h3 c hc)
theorem Wo.snoc {n : Nat} {s : Str} {c : Nat} (h : Wo n s) (hc : c ∈ signs.cps.toList) : Wo (n + 1) (s ++ ⟨#[c]⟩) := by
  have e : (s ++ (⟨#[c]⟩ : Str)).cps.toList = s.cps.toList ++ [c] := by
    show (s.cps ++ #[c]).toList = _
    simp
  refine ⟨⟨?_, ?_⟩, ?_, ?_⟩
  · show 1 ≤ (s.cps ++ #[c]).size
    simp
  · show (s.cps ++ #[c]).size ≤ n + 1
    have := h.len.2
    simp
    exact this
  · obtain ⟨a, q1, q2⟩ := h.first
    refine ⟨a, ?_, q2⟩
    rw [e, List.getElem?_append_left (List.getElem?_eq_some_iff.mp q1).1]
    exact q1
  · intro a ha
    rw [e] at ha
    rcases List.mem_append.mp ha with ha | ha
    · exact h.all a ha
    · rw [List.mem_singleton.mp ha]
      exact hc
section
variable {k : Nat} {S : Sto} {Q : D → Sto → Prop}
theorem is_whole_int {i : Int} (h : Q (.bl true) S) : W (callF P (k + 1) 2 [.int i] S) Q := by
  refine w_in (fn := e_is_whole.fn) rfl rfl (by decide) ?_
  simp only [e_is_whole, b_is_whole, ↓wR, ↓wO, ↓wE, Ty.isi]
  exact h
theorem is_between_int {i lo hi : Int} (h : Q (.bl (decide (lo ≤ i) && decide (i ≤ hi))) S) : W (callF P (k + 2) 3 [.int i, .int lo, .int hi] S) Q := by
  refine w_in (fn := e_is_between.fn) rfl rfl (by decide) ?_
  simp only [e_is_between, b_is_between, ↓wR, ↓wO, ↓wE]
  refine is_whole_int ?_
  simp only [↓wR, ↓wO, ↓wE]
  by_cases h1 : lo ≤ i
  · rw [if_pos h1]
    simpa [h1] using h
  · rw [if_neg h1]
    simpa [h1] using h
theorem between {i lo hi : Int} (h1 : lo ≤ i) (h2 : i ≤ hi) (h : Q (.bl true) S) : W (callF P (k + 2) 3 [.int i, .int lo, .int hi] S) Q := by
  refine is_between_int ?_
  rw [decide_eq_true h1, decide_eq_true h2]
  exact h
theorem dip {j : Nat} {many : Int} (hj : Jar j S) (h0 : 0 < many) (h1 : many < 2 ^ 64) (h : ∀ (v : Nat) S', (v : Int) < many → JS j S S' → Q (.int v) S') : W (callF P (k + 1) 17 [.ref j, .int many] S) Q := by
  have h' : ∀ v S', 0 ≤ v → v < many → JS j S S' → Q (.int v) S' := fun v S' q1 q2 q3 => by
    obtain ⟨v, rfl⟩ := Int.eq_ofNat_of_zero_le q1
    exact h v S' q2 q3
  obtain ⟨a, b, c, e, q⟩ := hj
  refine w_in (fn := e__law_dip.fn) rfl rfl (by decide) ?_
  have gr : ∀ a' b' c' : Int, 0 ≤ a' → JS j S (S.set j (.lst [.int a', .int b', .int c'])) := fun a' b' c' h => ⟨⟨a', b', c', get_set e, h⟩, (Gr.refl S).set (X := (· = j)) (.inr rfl) _⟩
  have e1 := items_lst e
  have e2 : ∀ z, itemsAt (S.set j (.lst z)) j = some z := fun z => items_lst (get_set e)
  have e3 : ∀ z, (S.set j (.lst z))[j]? = some (.lst z) := fun z => get_set e
  simp only [e__law_dip, b__law_dip, ↓wR, ↓wO, ↓wE, e1, ↓wX, wX]
  by_cases ha : 0 < a
  · rw [if_pos ha]
    refine ws_subv ?_
    simp only [↓wR, ↓wO, ↓wE, e1, ↓wX, wX, put0 e]
    refine ⟨⟨h0, by omega⟩, h' _ _ (Int.emod_nonneg _ (by omega)) (Int.emod_lt_of_pos _ h0) (gr _ _ _ (Int.ediv_nonneg q (by omega)))⟩
  · rw [if_neg ha]
    simp only [↓wR, ↓wO, ↓wE, e1, e2, ↓wX, wX, put2 e, put1 (e3 _), List.set_set]
    refine ⟨by omega, by omega, by omega, ?_⟩
    repeat (first | exact h' _ _ (Int.emod_nonneg _ (by omega)) (Int.emod_lt_of_pos _ h0) (gr _ _ _ q) | (refine ⟨by omega, ?_⟩) | (refine ⟨.inr ⟨by omega, by omega⟩, ?_⟩) | (refine ⟨⟨by omega, by decide⟩, ?_⟩))
theorem of_lst {j n : Nat} {l : List D} (hj : Jar j S) (hn : S[n]? = some (.lst l)) (hnj : n ≠ j) (hl : l ≠ []) (hz : l.length < 2 ^ 64) (h : ∀ x ∈ l, ∀ S', JS j S S' → Q x S') : W (callF P (k + 2) 18 [.ref j, .ref n] S) Q := by
  refine w_in (fn := e__law_one_of.fn) rfl rfl (by decide) ?_
  simp only [e__law_one_of, b__law_one_of, ↓wR, ↓wO, ↓wE, items_lst hn, ↓wX, wX]
  have h0 : 0 < l.length := List.length_pos_iff.mpr hl
  refine dip hj (by omega) (by omega) fun v S' h2 h3 => ?_
  have h4 : v < l.length := by omega
  simp only [↓wR, ↓wO, items_lst (h3.get hn hnj), ↓wX, wX, ati_nat, List.getElem?_eq_getElem h4]
  exact h _ (List.getElem_mem h4) _ h3
/-- one of some things told in place -/
theorem of_new {j : Nat} {l : List D} (hj : Jar j S) (hl : l ≠ []) (hz : l.length < 2 ^ 64) (h : ∀ x ∈ l, ∀ S', JS j S S' → Q x S') : W (callF P (k + 2) 18 [.ref j, .ref S.length] (S ++ [.lst l])) Q :=
  of_lst (hj.push _) get_new (by have := hj.lt; omega) hl hz fun x hx S' js => h x hx S' (((JS.refl hj).push _).trans js)
theorem of_str {j : Nat} {s : Str} (hj : Jar j S) (hl : 0 < s.length) (hz : s.length ≤ sizeLine) (h : ∀ c ∈ s.cps.toList, ∀ S', JS j S S' → Q (.str ⟨#[c]⟩) S') : W (callF P (k + 2) 18 [.ref j, .str s] S) Q := by
  refine w_in (fn := e__law_one_of.fn) rfl rfl (by decide) ?_
  simp only [e__law_one_of, b__law_one_of, ↓wR, ↓wO, ↓wE, ↓wX, wX]
  refine ⟨hz, ?_⟩
  have hz2 : s.length < 2 ^ 64 := Nat.lt_of_le_of_lt hz (by decide +kernel)
  refine dip hj (by omega) (by omega) fun v S' h2 h3 => ?_
  have h4 : v < s.cps.toList.length := by
    rw [Array.length_toList]
    have e : s.length = s.cps.size := rfl
    omega
  rw [w_idxS hz (c := s.cps.toList[v]) (by rw [ati_nat, List.getElem?_eq_getElem h4])]
  exact h _ (List.getElem_mem h4) _ h3
theorem kept_words (h : ∀ S', S'[S.length]? = some (.lst (keptS.map D.str)) → Gr No S S' → Q (.ref S.length) S') : W (callF P (k + 1) 19 [] S) Q := by
  refine w_in (fn := e__law_kept.fn) rfl rfl (by decide) ?_
  simp only [e__law_kept, b__law_kept, ↓wR, ↓wO, ↓wE, ↓wN, wN, ↓wX, wX]
  refine ⟨by decide +kernel, by decide +kernel, by decide +kernel, by decide +kernel, ?_⟩
  refine h _ ?_ ((Gr.refl S).push _)
  rw [get_new]
  congr 3
  decide +kernel
theorem is_name {s : Str} (hs : NameOk s) (h : ∀ S', Gr No S S' → Q (.bl true) S') : W (callF P (k + 1) 0 [.str s] S) Q := by
  obtain ⟨⟨⟨n1, n2⟩, ⟨c, n4, n5⟩, n6⟩, n3⟩ := hs
  refine w_in (fn := e_is_name.fn) rfl rfl (by decide) ?_
  simp only [e_is_name, b_is_name, ↓wR, ↓wO, ↓wE, ↓wX, wX, Ty.isi]
  have z : s.length ≤ sizeLine := Nat.le_trans n2 (by decide)
  refine ⟨z, ?_⟩
  rw [if_pos (by omega), if_pos (by omega)]
  show W (CO.isin.den (.str s) (.tup (keptS.map D.str)) S) _
  rw [w_isin (in_strs (l := keptS) rfl), decide_eq_false n3, ch_false, w_idxS z (c := c) (by rw [show (0 : Int) = ((0 : Nat) : Int) from rfl, ati_nat]; exact n4), w_isinS, decide_eq_true (show c ∈ (Str.ofString "abcdefghijklmnopqrstuvwxyz").cps.toList from n5), ch_true]
  refine lc_map (X := No) (fun _ _ => .bl true) ?_ (fun _ _ => no_lv) (fun _ z => z.elim) (fun i d S1 hd g => ?_) fun S' hg g => ?_
  · rw [List.length_map, Array.length_toList]
    exact z
  · rw [List.getElem?_map] at hd
    cases e : s.cps.toList[i]? with
    | none => rw [e] at hd; cases hd
    | some c' =>
      rw [e] at hd
      cases hd
      simp only [↓wR, ↓wO, ↓wE, ↓wX, wX]
      refine ⟨by decide +kernel, by decide +kernel, ?_, Gr.refl _⟩
      exact congrArg D.bl (decide_eq_true (n6 c' (List.mem_of_getElem? e)))
  · rw [all_true (items_lst hg)]
    exact h S' g
end
end Lw
namespace Lw
open PySem L2 MP
theorem nodup_sub : ∀ {xs ys : List Str}, xs.Nodup → (∀ x ∈ xs, x ∈ ys) → xs.length ≤ ys.length
  | [], _, _, _ => Nat.zero_le _
  | x :: xs, ys, h, q => by
    rw [List.nodup_cons] at h
    have h1 := q x List.mem_cons_self
    have h2 := nodup_sub (ys := ys.erase x) h.2 fun y hy => by
      have hne : y ≠ x := fun e => h.1 (e ▸ hy)
      exact (List.mem_erase_of_ne hne).mpr (q y (List.mem_cons_of_mem _ hy))
    rw [List.length_erase_of_mem h1] at h2
    have := List.length_pos_of_mem h1
    simp only [List.length_cons]
    omega
def qS (i : Nat) : Str := Str.ofString "q" ++ toString (0 + (i : Int))
def qs : List Str := (List.range 60).map qS
theorem q_small : ∀ i ∈ List.range 60, (0 + (i : Int)).natAbs.log2 < 1920 ∧ (Str.ofString "q").length + (Str.ofString (toString (0 + (i : Int)))).length ≤ sizeLine := by decide +kernel
theorem qs_is : (MP.upTo 0 (60 : Int).toNat).mapIdx (fun i _ => D.str (qS i)) = qs.map D.str := by
  apply List.ext_getElem?
  intro i
  rw [List.getElem?_mapIdx]
  unfold qs
  rw [List.map_map, List.getElem?_map]
  unfold MP.upTo
  rw [List.getElem?_map]
  show Option.map _ (Option.map _ (List.range 60)[i]?) = _
  cases e : (List.range 60)[i]? with
  | none => rfl
  | some k =>
    have h := List.getElem?_eq_some_iff.mp e
    have h2 := h.2
    rw [List.getElem_range] at h2
    subst h2
    rfl
theorem qs_nodup : qs.Nodup := by decide +kernel
theorem qs_okB : ∀ s ∈ qs, woB 12 s = true ∧ s ∉ keptS := by decide +kernel
theorem qs_ok : ∀ s ∈ qs, Wo 12 s ∧ s ∉ keptS := fun s h => ⟨woB_ok (qs_okB s h).1, (qs_okB s h).2⟩
def words1 : List Str := [Str.ofString "a", Str.ofString "b", Str.ofString "c", Str.ofString "x", Str.ofString "tag", Str.ofString "tage", Str.ofString "a1", Str.ofString "a_", Str.ofString "aa", Str.ofString "ab", Str.ofString "ttl"]
def words2 : List Str := [Str.ofString "a", Str.ofString "b", Str.ofString "m", Str.ofString "t", Str.ofString "z"]
theorem words1_okB : ∀ s ∈ words1, woB 12 s = true := by decide +kernel
theorem words1_ok : ∀ s ∈ words1, Wo 12 s := fun s h => woB_ok (words1_okB s h)
theorem words2_okB : ∀ s ∈ words2, woB 1 s = true := by decide +kernel
theorem words2_ok : ∀ s ∈ words2, Wo 1 s := fun s h => woB_ok (words2_okB s h)
theorem abyz_ok : ∀ c ∈ (Str.ofString "abyz059_").cps.toList, c ∈ signs.cps.toList := by decide +kernel
section
variable {k : Nat} {S : Sto} {Q : D → Sto → Prop}
theorem name {j n : Nat} {ts : List Str} (hj : Jar j S) (hn : S[n]? = some (.lst (ts.map D.str))) (hnj : n ≠ j) (few : ts.length < 60) (h : ∀ s S', NameOk s → s ∉ ts → JS j S S' → Q (.str s) S') : W (callF P (k + 3) 20 [.ref j, .ref n] S) Q := by
  refine w_in (fn := e__law_name.fn) rfl rfl (by decide) ?_
  simp only [e__law_name, b__law_name, ↓wR, ↓wO, ↓wE, ↓wX, wX]
  refine wi_rng ?_
  simp only [↓wR, ↓wO, ↓wE, ↓wX, wX]
  refine ⟨⟨by omega, by omega⟩, for_inv (fun i env S' => JS j S S' ∧ ∃ (t2 t3 t4 t5 t6 : Option D), env = [some (.ref j), some (.ref n), t2, t3, t4, t5, t6]) ⟨JS.refl hj, _, _, _, _, _, rfl⟩ (fun _ _ _ _ => no_lv) (fun i d env S1 hd hI => ?_) fun env S1 hI => ?_⟩
  · obtain ⟨js, t2, t3, t4, t5, t6, rfl⟩ := hI
    -- what follows once the word is drawn
    have fin : ∀ (w : Str) (t4 : Option D) S2, Wo 12 w → JS j S S2 → WS (ss (callF P (k + 2)) (.cons (.cond (.and (.cmp .nin (.var 3) (.var 1)) (.cmp .nin (.var 3) (.call 19 .nil))) (.cons (.ret (.var 3)) .nil) .nil) .nil) [some (.ref j), some (.ref n), some d, some (.str w), t4, t5, t6] S2) fun fl e2 S2 => match fl with
        | .next => JS j S S2 ∧ ∃ (t2 t3 t4 t5 t6 : Option D), e2 = [some (.ref j), some (.ref n), t2, t3, t4, t5, t6]
        | .cont => JS j S S2 ∧ ∃ (t2 t3 t4 t5 t6 : Option D), e2 = [some (.ref j), some (.ref n), t2, t3, t4, t5, t6]
        | .brk => WS (ss (callF P (k + 2)) (.cons (.ret (.idx (.lc .seq (.cons (.lc .rng (.cons (.c (.int 60)) .nil) (.nm 6) (.c (.bl true)) (.bin .add (.c (.str "q")) (.blt .str (.cons (.var 6) .nil))) [6]) .nil) (.nm 5) (.cmp .nin (.var 5) (.var 1)) (.var 5) [5]) (.c (.int 0)))) .nil) e2 S2) fun f _ S1 => rt f fun d => Q d S1
        | .ret r => rt (.ret r) fun d => Q d S2 := fun w t4 S2 hw js2 => by
      have hn2 := js2.get hn hnj
      simp only [↓wR, ↓wO, ↓wE, ↓wX, wX]
      rw [w_nin (in_strs (l := ts) (by show itemsAt S2 n = _; exact items_lst hn2))]
      by_cases c1 : w ∈ ts
      · rw [decide_eq_true c1]
        simp only [Bool.not_true, ↓wR, ↓wO, ↓wE, ↓wX, wX]
        exact ⟨js2, _, _, _, _, _, rfl⟩
      · rw [decide_eq_false c1]
        simp only [Bool.not_false, ↓wR, ↓wO, ↓wE, ↓wX, wX]
        refine kept_words fun S3 hk g => ?_
        rw [w_nin (in_strs (l := keptS) (by show itemsAt S3 S2.length = _; exact items_lst hk))]
        have js3 := js2.gr g
        by_cases c2 : w ∈ keptS
        · rw [decide_eq_true c2]
          simp only [Bool.not_true, ↓wR, ↓wO, ↓wE, ↓wX, wX]
          exact ⟨js3, _, _, _, _, _, rfl⟩
        · rw [decide_eq_false c2]
          simp only [Bool.not_false, ↓wR, ↓wO, ↓wE, ↓wX, wX]
          exact h w S3 ⟨hw, c2⟩ c1 js3
    simp only [↓wR, ↓wO, ↓wE, ↓wX, wX]
    refine ⟨by decide, ?_⟩
    refine of_new js.1 (by simp) (by simp) fun x hx S2 js2 => ?_
    obtain ⟨w, hw, rfl⟩ : ∃ w, w ∈ words1 ∧ x = .str w := by
      have hx' : x ∈ words1.map D.str := hx
      obtain ⟨w, q1, q2⟩ := List.mem_map.mp hx'
      exact ⟨w, q1, q2.symm⟩
    try simp only [↓wR, ↓wO, ↓wE, ↓wX, wX]
    refine dip js2.1 (by omega) (by omega) fun v S3 v1 js3 => ?_
    simp only [↓wR, ↓wO, ↓wE, ↓wX, wX]
    have js4 := (js.trans js2).trans js3
    by_cases c : (v : Int) = 0
    · rw [if_pos c]
      try simp only [↓wR, ↓wO, ↓wE, ↓wX, wX]
      refine of_new js4.1 (by simp) (by simp) fun x hx S5 js5 => ?_
      obtain ⟨w, hw, rfl⟩ : ∃ w, w ∈ words2 ∧ x = .str w := by
        have hx' : x ∈ words2.map D.str := hx
        obtain ⟨w, q1, q2⟩ := List.mem_map.mp hx'
        exact ⟨w, q1, q2.symm⟩
      try simp only [↓wR, ↓wO, ↓wE, ↓wX, wX]
      refine wi_rng ?_
      simp only [↓wR, ↓wO, ↓wE, ↓wX, wX]
      refine dip js5.1 (by omega) (by omega) fun v S6 v1 js6 => ?_
      simp only [↓wR, ↓wO, ↓wE, ↓wX, wX]
      have js7 := (js4.trans js5).trans js6
      refine ⟨⟨by omega, by omega⟩, for_inv (fun i env S' => JS j S S' ∧ ∃ (w : Str) (t4 : Option D), Wo (i + 1) w ∧ env = [some (.ref j), some (.ref n), some d, some (.str w), t4, t5, t6]) ⟨js7, w, _, words2_ok w hw, rfl⟩ (fun _ _ _ _ => no_lv) (fun i d env S1 hd hI => ?_) fun env S1 hI => ?_⟩
      · obtain ⟨js8, w, t4, hw, rfl⟩ := hI
        obtain ⟨hi, rfl⟩ := upTo_get hd
        simp only [↓wR, ↓wO, ↓wE, ↓wX, wX]
        refine of_str js8.1 (by decide +kernel) (by decide +kernel) fun c hc S9 js9 => ?_
        simp only [↓wR, ↓wO, ↓wE, ↓wX, wX]
        have hl := hw.len.2
        refine ⟨?_, js8.trans js9, _, _, hw.snoc (abyz_ok c hc), rfl⟩
        show w.length + 1 ≤ sizeLine
        have e : sizeLine = 2000000 ∨ 100 ≤ sizeLine := .inr (by decide)
        omega
      · obtain ⟨js8, w, t4, hw, rfl⟩ := hI
        rw [upTo_len] at hw
        have := fin w t4 S1 (hw.up (by omega)) js8
        simp only [↓wR] at this ⊢
        exact this
    · rw [if_neg c]
      have := fin w t4 S3 (words1_ok w hw) js4
      simp only [↓wR] at this ⊢
      exact this
  · obtain ⟨js, t2, t3, t4, t5, t6, rfl⟩ := hI
    have hn1 := js.get hn hnj
    simp only [↓wR, ↓wO, ↓wE, ↓wX, wX]
    refine wi_rng ?_
    simp only [↓wR, ↓wO, ↓wE, ↓wX, wX]
    refine ⟨⟨by omega, by omega⟩, ?_⟩
    refine lc_map (X := No) (fun i _ => .str (qS i)) (by rw [upTo_len]; decide) (fun _ _ => no_lv) (fun _ z => z.elim) (fun i d S2 hd g => ?_) fun S2 hg g => ?_
    · obtain ⟨hi, rfl⟩ := upTo_get hd
      simp only [↓wR, ↓wO, ↓wE, ↓wN, wN, ↓wX, wX]
      obtain ⟨z1, z2⟩ := q_small i (List.mem_range.mpr (by simpa using hi))
      exact ⟨z1, z2, rfl, Gr.refl _⟩
    · rw [qs_is] at hg
      simp only [↓wR, ↓wO, ↓wE, ↓wX, wX, items_lst hg]
      have hn2 := g.get hn1 (fun z => z)
      have hne : S1.length ≠ n := by have := lt_of_get hn1; omega
      refine lc_inv (fun i acc S' => acc = ((qs.take i).filter fun s => decide (s ∉ ts)).map D.str ∧ S'[S2.length]? = some (.lst acc) ∧ Gr No S2 S') ⟨rfl, get_new, (Gr.refl S2).push _⟩ (fun i acc S' hI => ⟨hI.2.1, fun p hp => ?_⟩) (fun i d acc S' hd ⟨h1, h2, h3⟩ => ?_) fun acc S' ⟨h1, h2, h3⟩ => ?_
      · rw [List.mem_singleton.mp hp]
        exact items_lst (hI.2.2.get hg (fun z => z))
      · obtain ⟨s, hs, rfl⟩ := map_get hd
        have hi : i < qs.length := (List.getElem?_eq_some_iff.mp hs).1
        have e2 : qs.take (i + 1) = qs.take i ++ [s] := by rw [List.take_succ, hs]; rfl
        simp only [↓wR, ↓wO, ↓wE, ↓wX, wX]
        rw [w_nin (in_strs (l := ts) (by show itemsAt S' n = _; exact items_lst (h3.get hn2 (fun z => z))))]
        by_cases c : s ∈ ts
        · rw [decide_eq_true c]
          simp only [Bool.not_true, ↓wR, ↓wO, ↓wE, ↓wX, wX]
          refine ⟨?_, h2, h3⟩
          rw [h1, e2, List.filter_append]
          simp [c]
        · rw [decide_eq_false c]
          simp only [Bool.not_false, ↓wR, ↓wO, ↓wE, ↓wX, wX]
          refine ⟨h2, ?_, ?_, get_set h2, h3.set (.inl (Nat.le_refl _)) _⟩
          · rw [h1, List.length_map]
            have a1 : ((qs.take i).filter fun s => decide (s ∉ ts)).length ≤ (qs.take i).length := List.length_filter_le _ _
            have a2 : (qs.take i).length ≤ 60 := by
              rw [List.length_take]
              have : qs.length = 60 := by decide +kernel
              omega
            have a3 : 100 ≤ sizeLine := by decide
            omega
          · rw [h1, e2, List.filter_append]
            simp [c]
      · rw [List.length_map, List.take_of_length_le (Nat.le_refl _)] at h1
        have ex : ∃ s r, (qs.filter fun s => decide (s ∉ ts)) = s :: r := by
          cases e : qs.filter fun s => decide (s ∉ ts) with
          | cons s r => exact ⟨s, r, rfl⟩
          | nil =>
            exfalso
            have := nodup_sub (xs := qs) (ys := ts) qs_nodup fun x hx => by
              rw [List.filter_eq_nil_iff] at e
              have := e x hx
              simpa using this
            have e2 : qs.length = 60 := by decide +kernel
            omega
        obtain ⟨s, r, e⟩ := ex
        have hs : s ∈ qs.filter fun s => decide (s ∉ ts) := by rw [e]; exact List.mem_cons_self
        rw [List.mem_filter] at hs
        have e1 : itemsAt S' S2.length = some (.str s :: r.map D.str) := by
          rw [items_lst h2, h1, e]
          rfl
        simp only [↓wR, ↓wO, ↓wE, ↓wX, wX, e1]
        obtain ⟨o1, o2⟩ := qs_ok s hs.1
        exact h s S' ⟨o1, o2⟩ (of_decide_eq_true hs.2) ((js.gr g).gr h3)
end
end Lw
namespace Lw
open PySem L2 MP
theorem shl_nat (a w : Nat) : (a : Int) * 2 ^ ((w : Int)).toNat = ((a * 2 ^ w : Nat) : Int) := by simp
theorem shl_one (w : Nat) : (1 : Int) * 2 ^ ((w : Int)).toNat = ((2 ^ w : Nat) : Int) := by simp
theorem two_pos (w : Nat) : 0 < 2 ^ w := Nat.pow_pos (by decide)
abbrev Fd := Str × Nat
def fD (f : Fd) : D := .tup [.str f.1, .int f.2]
structure FsOk (fs : List Fd) (n : Nat) : Prop where
  le : fs.length ≤ 12
  each : ∀ f ∈ fs, NameOk f.1 ∧ 1 ≤ f.2 ∧ f.2 ≤ 32
  nodup : (fs.map (·.1)).Nodup
  sum : (fs.map (·.2)).sum = 8 * n
abbrev Hd := Str × List Fd
def hD (h : Hd) : D := .tup [.str h.1, .tup (h.2.map fD)]
structure HsOk (hs : List Hd) : Prop where
  pos : 0 < hs.length
  le : hs.length ≤ 6
  each : ∀ h ∈ hs, NameOk h.1 ∧ ∃ n, 1 ≤ n ∧ n ≤ 16 ∧ FsOk h.2 n
  nodup : (hs.map (·.1)).Nodup
def fst : D → D
  | .tup (x :: _) => x
  | d => d
theorem fst_f (fs : List Fd) : (fs.map fD).map fst = (fs.map (·.1)).map D.str := by
  rw [List.map_map, List.map_map]
  rfl
theorem fst_h (hs : List Hd) : (hs.map hD).map fst = (hs.map (·.1)).map D.str := by
  rw [List.map_map, List.map_map]
  rfl
section
variable {k : Nat} {S : Sto} {Q : D → Sto → Prop}
theorem word {j w : Nat} (hj : Jar j S) (h0 : 1 ≤ w) (hw : w ≤ 32) (h : ∀ (x : Nat) S', x < 2 ^ w → JS j S S' → Q (.int x) S') : W (callF P (k + 2) 21 [.ref j, .int w] S) Q := by
  have e1 := shl_one w
  have e2 := two_pos w
  have e3 : 2 ^ 1 ≤ 2 ^ w := Nat.pow_le_pow_right (by decide) h0
  have e4 := pow32 hw
  refine w_in (fn := e__law_word.fn) rfl rfl (by decide) ?_
  simp only [e__law_word, b__law_word, ↓wR, ↓wO, ↓wE, ↓wX, wX]
  refine ⟨⟨by omega, by omega, by decide⟩, ?_⟩
  rw [e1]
  refine dip hj (by omega) (by omega) fun v S1 v1 js1 => ?_
  simp only [↓wR, ↓wO, ↓wE, ↓wX, wX]
  by_cases c1 : (v : Int) < 2
  · rw [if_pos c1]
    try simp only [↓wR, ↓wO, ↓wE, ↓wX, wX]
    refine dip js1.1 (by split <;> omega) (by split <;> omega) fun x S2 x1 js2 => ?_
    try simp only [↓wR, ↓wO, ↓wE, ↓wX, wX]
    exact h x S2 (by split at x1 <;> omega) (js1.trans js2)
  rw [if_neg c1]
  try simp only [↓wR, ↓wO, ↓wE, ↓wX, wX]
  by_cases c2 : (v : Int) = 2
  · rw [if_pos c2]
    try simp only [↓wR, ↓wO, ↓wE, ↓wX, wX]
    refine dip js1.1 (by split <;> omega) (by split <;> omega) fun x S2 x1 js2 => ?_
    try simp only [↓wR, ↓wO, ↓wE, ↓wX, wX]
    have e : ((2 ^ w : Nat) : Int) - 1 - (x : Int) = ((2 ^ w - 1 - x : Nat) : Int) := by split at x1 <;> omega
    rw [e]
    exact h _ S2 (by omega) (js1.trans js2)
  rw [if_neg c2]
  try simp only [↓wR, ↓wO, ↓wE, ↓wX, wX]
  by_cases c3 : (v : Int) = 3
  · rw [if_pos c3]
    try simp only [↓wR, ↓wO, ↓wE, ↓wX, wX]
    refine dip js1.1 (by omega) (by omega) fun x S2 x1 js2 => ?_
    try simp only [↓wR, ↓wO, ↓wE, ↓wX, wX]
    refine ⟨⟨by omega, by omega, by decide⟩, ?_⟩
    rw [shl_one x]
    exact h _ S2 (Nat.pow_lt_pow_right (by decide) (by omega)) (js1.trans js2)
  rw [if_neg c3]
  try simp only [↓wR, ↓wO, ↓wE, ↓wX, wX]
  refine dip js1.1 (by omega) (by omega) fun x S2 x1 js2 => ?_
  try simp only [↓wR, ↓wO, ↓wE, ↓wX, wX]
  refine ⟨⟨by omega, by omega, nat_small (by omega)⟩, ?_⟩
  refine dip js2.1 (by omega) (by omega) fun y S3 y1 js3 => ?_
  try simp only [↓wR, ↓wO, ↓wE, ↓wX, wX]
  obtain ⟨b1, b2⟩ := PyProof.Rows.bitAnd_range (Builtin.bitOr ((x : Int) * 2 ^ (16 : Int).toNat) y) (y := ((2 ^ w : Nat) : Int) - 1) (by omega)
  obtain ⟨z, hz⟩ := Int.eq_ofNat_of_zero_le b1
  rw [hz] at b2 ⊢
  exact h z S3 (by omega) ((js1.trans js2).trans js3)
theorem fields {j n : Nat} (hj : Jar j S) (h1 : 1 ≤ n) (h2 : n ≤ 16) (h : ∀ fs S', FsOk fs n → JS j S S' → Q (.tup (fs.map fD)) S') : W (callF P (k + 4) 22 [.ref j, .int n] S) Q := by
  refine w_in (fn := e__law_fields.fn) rfl rfl (by decide) ?_
  simp only [e__law_fields, b__law_fields, ↓wR, ↓wO, ↓wE, ↓wX, wX]
  refine ⟨.inl ⟨by decide, by decide⟩, ?_⟩
  refine wi_rng ?_
  simp only [↓wR, ↓wO, ↓wE, ↓wX, wX]
  have hn : S.length ≠ j := by have := hj.lt; omega
  refine ⟨⟨by omega, by omega⟩, for_inv (fun i env S' => JS j S S' ∧ ∃ (fs : List Fd) (left : Nat) (t2 t5 t6 t7 t8 t9 : Option D), env = [some (.ref j), some (.int n), t2, some (.int left), some (.ref S.length), t5, t6, t7, t8, t9] ∧ S'[S.length]? = some (.lst (fs.map fD)) ∧ fs.length ≤ i ∧ (∀ f ∈ fs, NameOk f.1 ∧ 1 ≤ f.2 ∧ f.2 ≤ 32) ∧ (fs.map (·.1)).Nodup ∧ left + (fs.map (·.2)).sum = 8 * n ∧ left + 32 * i ≤ 32 * 12)
    ⟨(JS.refl hj).push _, [], 8 * n, _, _, _, _, _, _, rfl, get_new, Nat.le_refl _, (fun f hf => by cases hf), List.nodup_nil, rfl, by omega⟩ (fun _ _ _ _ => no_lv) (fun i d env S' hd hI => ?_) fun env S' hI => ?_⟩
  · obtain ⟨js, fs, left, t2, t5, t6, t7, t8, t9, rfl, hS, hl, he, hnd, hsum, hleft⟩ := hI
    obtain ⟨hi, rfl⟩ := upTo_get hd
    have hi : i < 12 := by simpa using hi
    simp only [↓wR, ↓wO, ↓wE, ↓wX, wX]
    by_cases c : (0 : Int) < left
    · rw [if_pos c]
      try simp only [↓wR, ↓wO, ↓wE, ↓wX, wX]
      refine ⟨.inl ⟨by decide, by decide⟩, by decide, ?_⟩
      refine of_new js.1 (by simp) (by simp) fun x hx S2 js2 => ?_
      obtain ⟨v, rfl, v1, v2⟩ : ∃ v : Int, x = .int v ∧ 1 ≤ v ∧ v ≤ 128 := by
        simp only [List.mem_cons, List.not_mem_nil, or_false] at hx
        rcases hx with rfl | rfl | rfl | rfl | rfl | rfl | rfl | rfl | rfl | rfl | rfl | rfl | rfl | rfl | rfl <;> exact ⟨_, rfl, by decide, by decide⟩
      have hS2 := js2.get hS hn
      try simp only [↓wR, ↓wO, ↓wE, ↓wX, wX, items_lst hS2, Option.isSome_some]
      refine lc_map (X := No) (fun _ d => fst d) (by rw [List.length_map]; have : 100 ≤ sizeLine := by decide
                                                     omega) (fun S3 g => ?_) (fun _ z => z.elim) (fun i d S3 hd g => ?_) fun S3 hg g => ?_
      · intro p hp
        rw [List.mem_singleton.mp hp]
        rcases g with g | g
        · exact items_lst (g.get (by rw [List.getElem?_append_left (lt_of_get hS2)]; exact hS2) (fun z => z))
        · exact items_lst (g.get hS2 (fun z => z))
      · obtain ⟨f, _, rfl⟩ := map_get hd
        simp only [fD, ↓wR, ↓wO, ↓wE, ↓wX, wX]
        first | exact ⟨rfl, Gr.refl _⟩ | exact ⟨trivial, rfl, Gr.refl _⟩
      · rw [mapIdx_g fst, fst_f] at hg
        have js3 := js2.gr g
        try simp only [↓wR, ↓wO, ↓wE, ↓wX, wX]
        refine name js3.1 hg (by have := js2.1.lt; omega) (by rw [List.length_map]; omega) fun s S4 hs1 hs2 js4 => ?_
        have hS4 := js4.get (js3.get hS hn) hn
        simp only [↓wR, ↓wO, ↓wE, ↓wX, wX, hS4]
        generalize hw : (if (if v > if (left : Int) - 32 * (11 - (0 + (i : Int))) > 1 then (left : Int) - 32 * (11 - (0 + (i : Int))) else 1 then v else if (left : Int) - 32 * (11 - (0 + (i : Int))) > 1 then (left : Int) - 32 * (11 - (0 + (i : Int))) else 1) < if (left : Int) < 32 then (left : Int) else 32 then (if v > if (left : Int) - 32 * (11 - (0 + (i : Int))) > 1 then (left : Int) - 32 * (11 - (0 + (i : Int))) else 1 then v else if (left : Int) - 32 * (11 - (0 + (i : Int))) > 1 then (left : Int) - 32 * (11 - (0 + (i : Int))) else 1) else if (left : Int) < 32 then (left : Int) else 32) = w
        have hw2 : 1 ≤ w ∧ w ≤ 32 ∧ w ≤ left ∧ (left : Int) - w ≤ 32 * (11 - i) := by
          subst hw
          refine ⟨?_, ?_, ?_, ?_⟩ <;> (repeat' split) <;> omega
        obtain ⟨w, rfl⟩ := Int.eq_ofNat_of_zero_le (show 0 ≤ w by omega)
        rw [show (left : Int) - (w : Int) = ((left - w : Nat) : Int) by omega]
        refine ⟨by rw [List.length_map]; have : 100 ≤ sizeLine := by decide
                   omega, ((js.trans js3).trans js4).set hn (Nat.le_refl _) _, fs ++ [(s, w)], left - w, _, _, _, _, _, _, rfl, ?_, ?_, ?_, ?_, ?_, ?_⟩
        · rw [get_set hS4, List.map_append]
          rfl
        · simp
          omega
        · intro f hf
          rcases List.mem_append.mp hf with hf | hf
          · exact he f hf
          · rw [List.mem_singleton.mp hf]
            exact ⟨hs1, by simp; omega, by simp; omega⟩
        · rw [List.map_append, List.nodup_append]
          refine ⟨hnd, by simp, fun a ha b hb => ?_⟩
          simp only [List.map_cons, List.map_nil, List.mem_singleton] at hb
          rw [hb]
          exact fun e => hs2 (e ▸ ha)
        · rw [List.map_append, List.sum_append]
          simp
          omega
        · omega
    · rw [if_neg c]
      try simp only [↓wR, ↓wO, ↓wE, ↓wX, wX]
      exact ⟨js, fs, left, _, _, _, _, _, _, rfl, hS, by omega, he, hnd, hsum, by omega⟩
  · obtain ⟨js, fs, left, t2, t5, t6, t7, t8, t9, rfl, hS, hl, he, hnd, hsum, hleft⟩ := hI
    rw [upTo_len] at hl hleft
    have hl : fs.length ≤ 12 := by simpa using hl
    have hleft : left + 32 * 12 ≤ 32 * 12 := by simpa using hleft
    simp only [↓wR, ↓wO, ↓wE, items_lst hS, ↓wX, wX]
    exact h fs S' ⟨hl, he, hnd, by omega⟩ js
end
end Lw
namespace Lw
open PySem L2 MP
abbrev FD (fs : List Fd) : D := .tup (fs.map fD)
abbrev HD (hs : List Hd) : D := .tup (hs.map hD)
def snd : D → D
  | .tup (_ :: x :: _) => x
  | d => d
theorem snd_f (fs : List Fd) : (fs.map fD).map snd = (fs.map fun f => ((f.2 : Nat) : Int)).map D.int := by
  rw [List.map_map, List.map_map]
  rfl
theorem sum_int : ∀ l : List Fd, (l.map fun f => ((f.2 : Nat) : Int)).sum = (((l.map (·.2)).sum : Nat) : Int)
  | [] => rfl
  | f :: r => by simp [sum_int r]
theorem hun : 100 ≤ sizeLine := by decide
section
variable {k : Nat} {S : Sto} {Q : D → Sto → Prop}
theorem headers {j : Nat} (hj : Jar j S) (h : ∀ hs S', HsOk hs → JS j S S' → Q (HD hs) S') : W (callF P (k + 5) 23 [.ref j, .int 1, .int 6] S) Q := by
  refine w_in (fn := e__law_headers.fn) rfl rfl (by decide) ?_
  simp only [e__law_headers, b__law_headers, ↓wR, ↓wO, ↓wE, ↓wX, wX]
  refine wi_rng ?_
  simp only [↓wR, ↓wO, ↓wE, ↓wX, wX]
  have hn : S.length ≠ j := by have := hj.lt; omega
  refine dip (hj.push _) (by omega) (by omega) fun v S1 v1 js1 => ?_
  simp only [↓wR, ↓wO, ↓wE, ↓wX, wX]
  have js0 := ((JS.refl hj).push (.lst [])).trans js1
  refine ⟨⟨by omega, by omega⟩, for_inv (fun i env S' => JS j S S' ∧ ∃ (hs : List Hd) (t4 t5 t6 t7 : Option D), env = [some (.ref j), some (.int 1), some (.int 6), some (.ref S.length), t4, t5, t6, t7] ∧ S'[S.length]? = some (.lst (hs.map hD)) ∧ hs.length = i ∧ (∀ h ∈ hs, NameOk h.1 ∧ ∃ n, 1 ≤ n ∧ n ≤ 16 ∧ FsOk h.2 n) ∧ (hs.map (·.1)).Nodup)
    ⟨js0, [], _, _, _, _, rfl, js1.get get_new hn, rfl, (fun f hf => by cases hf), List.nodup_nil⟩ (fun _ _ _ _ => no_lv) (fun i d env S' hd hI => ?_) fun env S' hI => ?_⟩
  · obtain ⟨js, hs, t4, t5, t6, t7, rfl, hS, hl, he, hnd⟩ := hI
    obtain ⟨hi, rfl⟩ := upTo_get hd
    have hi : i < 6 := by omega
    simp only [↓wR, ↓wO, ↓wE, ↓wX, wX]
    refine ⟨by show 10 ≤ sizeLine; have := hun; omega, ?_⟩
    refine of_new js.1 (by simp) (by simp) fun x hx S2 js2 => ?_
    obtain ⟨n, rfl, v1, v2⟩ : ∃ n : Nat, x = .int n ∧ 1 ≤ n ∧ n ≤ 16 := by
      simp only [List.mem_cons, List.not_mem_nil, or_false] at hx
      rcases hx with rfl | rfl | rfl | rfl | rfl | rfl | rfl | rfl | rfl | rfl
      · exact ⟨1, rfl, by decide, by decide⟩
      · exact ⟨1, rfl, by decide, by decide⟩
      · exact ⟨1, rfl, by decide, by decide⟩
      · exact ⟨1, rfl, by decide, by decide⟩
      · exact ⟨2, rfl, by decide, by decide⟩
      · exact ⟨2, rfl, by decide, by decide⟩
      · exact ⟨3, rfl, by decide, by decide⟩
      · exact ⟨4, rfl, by decide, by decide⟩
      · exact ⟨1, rfl, by decide, by decide⟩
      · exact ⟨16, rfl, by decide, by decide⟩
    have hS2 := js2.get hS hn
    try simp only [↓wR, ↓wO, ↓wE, ↓wX, wX, items_lst hS2, Option.isSome_some]
    refine lc_map (X := No) (fun _ d => fst d) (by rw [List.length_map]; have := hun; omega) (fun S3 g => ?_) (fun _ z => z.elim) (fun i d S3 hd g => ?_) fun S3 hg g => ?_
    · intro p hp
      rw [List.mem_singleton.mp hp]
      rcases g with g | g
      · exact items_lst (g.get (by rw [List.getElem?_append_left (lt_of_get hS2)]; exact hS2) (fun z => z))
      · exact items_lst (g.get hS2 (fun z => z))
    · obtain ⟨f, _, rfl⟩ := map_get hd
      simp only [hD, ↓wR, ↓wO, ↓wE, ↓wX, wX]
      first | exact ⟨rfl, Gr.refl _⟩ | exact ⟨trivial, rfl, Gr.refl _⟩
    · rw [mapIdx_g fst, fst_h] at hg
      have js3 := js2.gr g
      try simp only [↓wR, ↓wO, ↓wE, ↓wX, wX]
      refine name js3.1 hg (by have := js2.1.lt; omega) (by rw [List.length_map]; omega) fun s S4 hs1 hs2 js4 => ?_
      have hS4 := js4.get (js3.get hS hn) hn
      try simp only [↓wR, ↓wO, ↓wE, ↓wX, wX]
      refine fields js4.1 v1 v2 fun fs S5 hfs js5 => ?_
      have hS5 := js5.get hS4 hn
      simp only [↓wR, ↓wO, ↓wE, ↓wX, wX, hS5]
      refine ⟨by rw [List.length_map]; have := hun; omega, (((js.trans js3).trans js4).trans js5).set hn (Nat.le_refl _) _, hs ++ [(s, fs)], _, _, _, _, rfl, ?_, by simp [hl], ?_, ?_⟩
      · rw [get_set hS5, List.map_append]
        rfl
      · intro f hf
        rcases List.mem_append.mp hf with hf | hf
        · exact he f hf
        · rw [List.mem_singleton.mp hf]
          exact ⟨hs1, n, v1, v2, hfs⟩
      · rw [List.map_append, List.nodup_append]
        refine ⟨hnd, by simp, fun a ha b hb => ?_⟩
        simp only [List.map_cons, List.map_nil, List.mem_singleton] at hb
        rw [hb]
        exact fun e => hs2 (e ▸ ha)
  · obtain ⟨js, hs, t4, t5, t6, t7, rfl, hS, hl, he, hnd⟩ := hI
    rw [upTo_len] at hl
    simp only [↓wR, ↓wO, ↓wE, items_lst hS, ↓wX, wX]
    exact h hs S' ⟨by omega, by omega, he, hnd⟩ js
theorem sum_widths {fs : List Fd} {e0 : En} {v1 v2 : Nat} (hl : fs.length ≤ 12) (hne : v1 ≠ v2) (h1 : v2 < e0.length) {Q : Sto → Prop} (h : ∀ S', itemsAt S' S.length = some ((fs.map fun f => ((f.2 : Nat) : Int)).map D.int) → Gr No S S' → Q S') {cl : Nat → ON} : ∃ S2, lcD S.length (.tu [.nm v1, .nm v2]) (ev cl (.c (.bl true))) (ev cl (.var v2)) [] e0 (fs.map fD) (S ++ [.lst []]) = some S2 ∧ Q S2 := by
  refine lc_map (X := No) (fun _ d => snd d) (by rw [List.length_map]; have := hun; omega) (fun _ _ => no_lv) (fun _ z => z.elim) (fun i d S3 hd g => ?_) fun S3 hg g => ?_
  · obtain ⟨f, _, rfl⟩ := map_get hd
    simp only [fD, ↓wR, ↓wO, ↓wE, ↓wX, wX]
    try refine ⟨trivial, ?_⟩
    unfold atE
    rw [List.getElem?_set_self (by simpa using h1)]
    exact ⟨rfl, Gr.refl _⟩
  · rw [mapIdx_g snd, snd_f] at hg
    exact h S3 (items_lst hg) g
theorem size_by {fs : List Fd} {n : Nat} (hf : FsOk fs n) (h : ∀ S', Gr No S S' → Q (.int n) S') : W (callF P (k + 1) 9 [FD fs] S) Q := by
  refine w_in (fn := e_size_by.fn) rfl rfl (by decide) ?_
  simp only [e_size_by, b_size_by, ↓wR, ↓wO, ↓wE, ↓wX, wX]
  refine sum_widths hf.le ?h1 ?h2 fun S' e g => ?_
  case h1 => decide
  case h2 => simp
  rw [w_sum e]
  simp only [↓wR, ↓wO, ↓wE, ↓wX, wX]
  refine ⟨⟨by decide, by decide⟩, ?_⟩
  rw [sum_int, hf.sum, show (((8 * n : Nat) : Int) / 8) = (n : Int) by omega]
  exact h S' g
theorem law_size {fs : List Fd} {n : Nat} (hf : FsOk fs n) (h : ∀ S', Gr No S S' → Q (.int n) S') : W (callF P (k + 1) 24 [FD fs] S) Q := by
  refine w_in (fn := e__law_size.fn) rfl rfl (by decide) ?_
  simp only [e__law_size, b__law_size, ↓wR, ↓wO, ↓wE, ↓wX, wX]
  refine sum_widths hf.le ?h1 ?h2 fun S' e g => ?_
  case h1 => decide
  case h2 => simp
  rw [w_sum e]
  simp only [↓wR, ↓wO, ↓wE, ↓wX, wX]
  refine ⟨⟨by decide, by decide⟩, ?_⟩
  rw [sum_int, hf.sum, show (((8 * n : Nat) : Int) / 8) = (n : Int) by omega]
  exact h S' g
/-! what the program asks of headers -/
theorem are_unlike {n : Nat} {xs : List Str} (h0 : itemsAt S n = some (xs.map D.str)) (nd : xs.Nodup) (few : xs.length ≤ 4000) (h : Q (.bl true) S) : W (callF P (k + 1) 1 [.ref n] S) Q := by
  refine w_in (fn := e_are_unlike.fn) rfl rfl (by decide) ?_
  simp only [e_are_unlike, b_are_unlike, ↓wR, ↓wO, ↓wE, ↓wX, wX]
  refine we_lenset ?_
  simp only [↓wR, ↓wO, ↓wE, ↓wX, wX]
  refine ⟨n, xs, rfl, h0, nd, few, ?_⟩
  simp only [↓wR, ↓wO, ↓wE, ↓wX, wX, h0, List.length_map, decide_true]
  exact h
/-- pairs of a name and something -/
theorem are_pairs {α : Type} {nm : α → Str} {it : α → D} {l : List α} {lo hi : Int} (h1 : lo ≤ l.length) (h2 : (l.length : Int) ≤ hi) (h3 : l.length ≤ 100) (he : ∀ x ∈ l, NameOk (nm x)) (nd : (l.map nm).Nodup) (h : ∀ S', Gr No S S' → Q (.bl true) S') : W (callF P (k + 2) 4 [.tup (l.map fun x => .tup [.str (nm x), it x]), .int lo, .int hi] S) Q := by
  refine w_in (fn := e_are_pairs.fn) rfl rfl (by decide) ?_
  simp only [e_are_pairs, b_are_pairs, ↓wR, ↓wO, ↓wE, ↓wX, wX, Ty.isi, List.length_map]
  rw [if_pos h1, if_pos h2]
  refine lc_map (X := No) (fun _ _ => .bl true) (by rw [List.length_map]; have := hun; omega) (fun _ _ => no_lv) (fun _ z => z.elim) (fun i d S1 hd g => ?_) fun S1 hg g => ?_
  · obtain ⟨x, hx, rfl⟩ := map_get hd
    simp only [↓wR, ↓wO, ↓wE, ↓wX, wX, Ty.isi]
    try refine ⟨trivial, ?_⟩
    try simp only [List.length_cons, List.length_nil, ↓wR, ↓wO, ↓wE, ↓wX, wX]
    try rw [if_pos (by decide)]
    refine is_name (he x (List.mem_of_getElem? hx)) fun S2 g2 => ?_
    exact ⟨rfl, g2⟩
  · rw [all_true (items_lst hg)]
    simp only [↓wR, ↓wO, ↓wE, ↓wX, wX]
    refine lc_map (X := No) (fun _ d => fst d) (by rw [List.length_map]; have := hun; omega) (fun _ _ => no_lv) (fun _ z => z.elim) (fun i d S2 hd g => ?_) fun S2 hg2 g2 => ?_
    · obtain ⟨x, hx, rfl⟩ := map_get hd
      simp only [↓wR, ↓wO, ↓wE, ↓wX, wX, Ty.isi]
      first | exact ⟨rfl, Gr.refl _⟩ | exact ⟨trivial, rfl, Gr.refl _⟩
    · rw [mapIdx_g fst] at hg2
      have e : (l.map fun x => D.tup [.str (nm x), it x]).map fst = (l.map nm).map D.str := by
        rw [List.map_map, List.map_map]
        rfl
      rw [e] at hg2
      exact are_unlike (items_lst hg2) nd (by rw [List.length_map]; omega) (h S2 (g.trans g2))
theorem are_fields {fs : List Fd} {n : Nat} (hf : FsOk fs n) (h1 : 1 ≤ n) (h2 : n ≤ 16) (h : ∀ S', Gr No S S' → Q (.bl true) S') : W (callF P (k + 3) 5 [FD fs] S) Q := by
  have hl := hf.le
  have hne : 1 ≤ fs.length := by
    cases e : fs with
    | nil =>
      have := hf.sum
      rw [e] at this
      simp at this
      omega
    | cons a r => simp
  refine w_in (fn := e_are_fields.fn) rfl rfl (by decide) ?_
  simp only [e_are_fields, b_are_fields, ↓wR, ↓wO, ↓wE, ↓wX, wX, Ty.isi]
  refine are_pairs (nm := fun f : Fd => f.1) (it := fun f => .int f.2) (by omega) (by omega) (by omega) (fun f hf2 => (hf.each f hf2).1) hf.nodup fun S1 g1 => ?_
  simp only [↓wR, ↓wO, ↓wE, ↓wX, wX, Bool.not_true]
  refine lc_map (X := No) (fun _ _ => .bl true) (by rw [List.length_map]; have := hun; omega) (fun _ _ => no_lv) (fun _ z => z.elim) (fun i d S2 hd g => ?_) fun S2 hg g2 => ?_
  · obtain ⟨f, hf2, rfl⟩ := map_get hd
    have := hf.each f (List.mem_of_getElem? hf2)
    simp only [fD, ↓wR, ↓wO, ↓wE, ↓wX, wX]
    exact between (by omega) (by omega) ⟨rfl, Gr.refl _⟩
  · rw [all_true (items_lst hg)]
    simp only [↓wR, ↓wO, ↓wE, ↓wX, wX, Bool.not_true]
    refine sum_widths hf.le ?h1 ?h2 fun S' e g => ?_
    case h1 => decide
    case h2 => simp
    rw [w_sum e]
    simp only [↓wR, ↓wO, ↓wE, ↓wX, wX]
    rw [sum_int, hf.sum]
    refine ⟨by decide, ?_⟩
    rw [if_pos (by omega), decide_eq_true (by omega)]
    exact h S' ((g1.trans g2).trans g)
theorem are_headers {hs : List Hd} (hh : HsOk hs) (h : ∀ S', Gr No S S' → Q (.bl true) S') : W (callF P (k + 4) 6 [HD hs] S) Q := by
  have hl := hh.le
  refine w_in (fn := e_are_headers_by.fn) rfl rfl (by decide) ?_
  simp only [e_are_headers_by, b_are_headers_by, ↓wR, ↓wO, ↓wE, ↓wX, wX, Ty.isi]
  refine are_pairs (nm := fun f : Hd => f.1) (it := fun f => FD f.2) (by omega) (by omega) (by omega) (fun f hf2 => (hh.each f hf2).1) hh.nodup fun S1 g1 => ?_
  simp only [↓wR, ↓wO, ↓wE, ↓wX, wX, Bool.not_true]
  refine lc_map (X := No) (fun _ _ => .bl true) (by rw [List.length_map]; have := hun; omega) (fun _ _ => no_lv) (fun _ z => z.elim) (fun i d S2 hd g => ?_) fun S2 hg g2 => ?_
  · obtain ⟨f, hf2, rfl⟩ := map_get hd
    obtain ⟨_, n, n1, n2, n3⟩ := hh.each f (List.mem_of_getElem? hf2)
    simp only [hD, ↓wR, ↓wO, ↓wE, ↓wX, wX]
    exact are_fields n3 n1 n2 fun S3 g3 => ⟨rfl, g3⟩
  · rw [all_true (items_lst hg)]
    exact h S2 (g1.trans g2)
theorem fields_at {hs : List Hd} {i : Nat} {hd : Hd} (hh : HsOk hs) (hi : hs[i]? = some hd) (h : ∀ S', Gr No S S' → Q (FD hd.2) S') : W (callF P (k + 5) 12 [HD hs, .int i] S) Q := by
  have hl : i < hs.length := (List.getElem?_eq_some_iff.mp hi).1
  refine w_in (fn := e_fields_at.fn) rfl rfl (by decide) ?_
  simp only [e_fields_at, b_fields_at, ↓wR, ↓wO, ↓wE, ↓wX, wX, Ty.isi]
  refine are_headers hh fun S1 g1 => ?_
  simp only [↓wR, ↓wO, ↓wE, ↓wX, wX, Bool.not_true, List.length_map]
  refine between (by omega) (by omega) ?_
  simp only [↓wR, ↓wO, ↓wE, ↓wX, wX, Bool.not_true, List.length_map, ati_nat, List.getElem?_map, hi, Option.map_some, hD]
  exact h S1 g1
end
end Lw
namespace Lw
open PySem L2 MP
abbrev nD (x : Nat) : D := .int x
abbrev XD (xs : List Nat) : D := .tup (xs.map nD)
abbrev u8 (n : Nat) : List Nat := List.replicate n 8
abbrev wsOf (fs : List Fd) : List Nat := fs.map (·.2)
theorem cut_nat {l : List D} {a b : Nat} (h : a ≤ b) (hb : b ≤ l.length) : cutD l (some (a : Int)) (some (b : Int)) = (l.drop a).take (b - a) := by
  unfold cutD
  rw [HT.sIx_nat, HT.sIx_nat, Nat.min_eq_left hb, Nat.min_eq_left (by omega)]
theorem cut_nats {l : List Nat} {a b : Nat} (h : a ≤ b) (hb : b ≤ l.length) : cutD (l.map nD) (some (a : Int)) (some (b : Int)) = ((l.drop a).take (b - a)).map nD := by
  rw [cut_nat h (by simpa using hb), List.map_take, List.map_drop]
theorem down_ok : ∀ w ∈ List.range 33, 1 ≤ w → okStep ((w : Int) - 1) (-1) (-1) = true ∧ (Builtin.Range.rangeSize ((w : Int) - 1) (-1) (-1)).toNat = w := by decide +kernel
theorem by8_ok : ∀ n ∈ List.range 17, okStep 0 ((8 * n : Nat) : Int) 8 = true ∧ (Builtin.Range.rangeSize 0 ((8 * n : Nat) : Int) 8).toNat = n := by decide +kernel
theorem bit_eq {x w i : Nat} (h : i < w) : Builtin.bitAnd ((x : Int) / 2 ^ ((w : Int) - 1 + (i : Int) * -1).toNat) 1 = ((x / 2 ^ (w - 1 - i) % 2 : Nat) : Int) := by
  have e : ((w : Int) - 1 + (i : Int) * -1).toNat = w - 1 - i := by omega
  rw [e, PyProof.Rows.bitAnd_m1]
  simp
theorem take_bits {w x i : Nat} (h : i < w) : (toB w x).take (i + 1) = (toB w x).take i ++ [x / 2 ^ (w - 1 - i) % 2] := by
  rw [List.take_succ, toB_get h]
  rfl
theorem u8_sum (n : Nat) : (u8 n).sum = 8 * n := by
  rw [List.sum_replicate_nat, Nat.mul_comm]
theorem u8_take {n i : Nat} (h : i ≤ n) : (u8 n).take i = u8 i := by
  rw [List.take_replicate, Nat.min_eq_left h]
theorem u8_succ (n : Nat) : u8 (n + 1) = u8 n ++ [8] := List.replicate_succ'
theorem take_snoc {α : Type} {l : List α} {i : Nat} {x : α} (h : l[i]? = some x) : l.take (i + 1) = l.take i ++ [x] := by
  rw [List.take_succ, h]
  rfl
theorem sum_take_le (l : List Nat) (i : Nat) : (l.take i).sum ≤ l.sum := by
  have e := List.take_append_drop i l
  have : (l.take i ++ l.drop i).sum = l.sum := by rw [e]
  rw [List.sum_append] at this
  omega
theorem len_of {α : Type} {l : List α} {i : Nat} {x : α} (h : l[i]? = some x) : i < l.length := (List.getElem?_eq_some_iff.mp h).1
section
variable {k : Nat} {S : Sto} {Q : D → Sto → Prop}
/-- the bits of one word, behind those that are there -/
theorem bits8 : okStep 7 (-1) (-1) = true ∧ (Builtin.Range.rangeSize 7 (-1) (-1)).toNat = 8 := by decide +kernel
theorem law_read {fs : List Fd} {n : Nat} {ts : List Nat} (hf : FsOk fs n) (h2 : n ≤ 16) (ht : Fit (u8 n) ts) (h : ∀ S', Gr No S S' → Q (XD (cutW (wsOf fs) (fB (u8 n) ts))) S') : W (callF P (k + 1) 25 [FD fs, XD ts] S) Q := by
  have hl := ht.len
  rw [List.length_replicate] at hl
  have h100 := hun
  refine w_in (fn := e__law_read.fn) rfl rfl (by decide) ?_
  simp only [e__law_read, b__law_read, ↓wR, ↓wO, ↓wE, ↓wX, wX]
  have nn : ∀ {A : Prop} {a : A}, ¬ No 0 := fun z => z
  have q200 : 200 ≤ sizeLine := by decide
  refine for_inv (fun i env S' => (∃ (t2 t6 t7 t8 t9 t10 : Option D), env = [some (FD fs), some (XD ts), t2, some (.ref S.length), some (.ref (S ++ [Cell.lst []]).length), some (.int 0), t6, t7, t8, t9, t10]) ∧ Gr No S S' ∧ S'[S.length]? = some (.lst ((fB (u8 i) (ts.take i)).map nD)) ∧ S'[(S ++ [Cell.lst []]).length]? = some (.lst []))
    ⟨⟨_, _, _, _, _, _, rfl⟩, ((Gr.refl S).push _).push _, by rw [List.getElem?_append_left (by simp)]; exact get_new, get_new⟩ (fun _ _ _ _ => no_lv) (fun i d env S1 hd hI => ?_) fun env S1 hI => ?_
  · obtain ⟨⟨t2, t6, t7, t8, t9, t10, rfl⟩, g, hb, hfo⟩ := hI
    obtain ⟨b, hb2, rfl⟩ := map_get hd
    have hi : i < ts.length := len_of hb2
    simp only [↓wR, ↓wO, ↓wE, ↓wX, wX]
    refine wi_rng3 ?_
    simp only [↓wR, ↓wO, ↓wE, ↓wN, wN, ↓wX, wX]
    have e0 : (fB (u8 i) (ts.take i)).length = 8 * i := by
      rw [fB_len (by rw [List.length_take, List.length_replicate]; omega), u8_sum]
    refine ⟨bits8.1, for_inv (fun i' env S' => (∃ (t6 : Option D), env = [some (FD fs), some (XD ts), some (nD b), some (.ref S.length), some (.ref (S ++ [Cell.lst []]).length), some (.int 0), t6, t7, t8, t9, t10]) ∧ Gr No S S' ∧ S'[S.length]? = some (.lst ((fB (u8 i) (ts.take i) ++ (toB 8 b).take i').map nD)) ∧ S'[(S ++ [Cell.lst []]).length]? = some (.lst []))
      ⟨⟨_, rfl⟩, g, by simpa using hb, hfo⟩ (fun _ _ _ _ => no_lv) (fun i' d env S2 hd hI => ?_) fun env S2 hI => ?_⟩
    · obtain ⟨⟨t6, rfl⟩, g, hb, hfo⟩ := hI
      obtain ⟨hi', rfl⟩ := stepTo_get hd
      rw [bits8.2] at hi'
      have e1 := bit_eq (x := b) hi'
      simp only [↓wR, ↓wO, ↓wE, ↓wX, wX, items_lst hb, hb, Option.isSome_some]
      refine ⟨by omega, ?_, ⟨_, rfl⟩, g.set (.inl (Nat.le_refl _)) _, ?_, ?_⟩
      · rw [List.length_map, List.length_append, e0, List.length_take]
        omega
      · rw [get_set hb, take_bits hi', ← List.append_assoc, List.map_append (l₂ := [_])]
        simp only [List.map_cons, List.map_nil, nD]
        rw [← e1]
        rfl
      · rw [List.getElem?_set_ne (by simp)]
        exact hfo
    · obtain ⟨⟨t6, rfl⟩, g, hb, hfo⟩ := hI
      rw [stepTo_len, bits8.2, List.take_of_length_le (l := toB 8 b) (by rw [toB_len]; exact Nat.le_refl _)] at hb
      refine ⟨⟨_, _, _, _, _, _, rfl⟩, g, ?_, hfo⟩
      rw [hb, u8_succ, take_snoc hb2, fB_snoc (by rw [List.length_take, List.length_replicate]; omega)]
  · obtain ⟨⟨t2, t6, t7, t8, t9, t10, rfl⟩, g, hb, hfo⟩ := hI
    rw [List.length_map, List.take_of_length_le (Nat.le_refl _), hl] at hb
    have e0 : (fB (u8 n) ts).length = 8 * n := by
      rw [fB_len (by rw [List.length_replicate]; exact hl), u8_sum]
    have hbits : Bits (fB (u8 n) ts) := fB_bits
    generalize fB (u8 n) ts = bs at hb e0 hbits h
    simp only [↓wR, ↓wO, ↓wE, ↓wX, wX]
    refine for_inv (fun i env S' => (∃ (t2 t6 t7 t8 t9 t10 : Option D), env = [some (FD fs), some (XD ts), t2, some (.ref S.length), some (.ref (S ++ [Cell.lst []]).length), some (.int (((wsOf fs).take i).sum : Nat)), t6, t7, t8, t9, t10]) ∧ Gr No S S' ∧ S'[S.length]? = some (.lst (bs.map nD)) ∧ S'[(S ++ [Cell.lst []]).length]? = some (.lst (((cutW (wsOf fs) bs).take i).map nD)))
      ⟨⟨_, _, _, _, _, _, rfl⟩, g, hb, hfo⟩ (fun _ _ _ _ => no_lv) (fun i d env S1 hd hI => ?_) fun env S1 hI => ?_
    · obtain ⟨⟨t2, t6, t7, t8, t9, t10, rfl⟩, g, hb, hfo⟩ := hI
      obtain ⟨f, hf2, rfl⟩ := map_get hd
      have hw : (wsOf fs)[i]? = some f.2 := by rw [List.getElem?_map, hf2]; rfl
      have e2 : ((wsOf fs).take (i + 1)).sum = ((wsOf fs).take i).sum + f.2 := by rw [take_snoc hw, List.sum_append]; simp
      have e3 := sum_take_le (wsOf fs) (i + 1)
      have e4 : (wsOf fs).sum = 8 * n := hf.sum
      simp only [fD, ↓wR, ↓wO, ↓wE, ↓wX, wX, items_lst hb]
      rw [show ((((wsOf fs).take i).sum : Nat) : Int) + ((f.2 : Nat) : Int) = (((((wsOf fs).take i).sum + f.2 : Nat)) : Int) by omega, cut_nats (by omega) (by omega), Nat.add_sub_cancel_left]
      refine ⟨?_, ?_⟩
      · rw [List.length_map, List.length_take]
        have := (hf.each f (List.mem_of_getElem? hf2)).2.2
        omega
      have e5 := cutW_get (bs := bs) hw
      generalize hm : (bs.drop ((wsOf fs).take i).sum).take f.2 = mid at e5 ⊢
      have g1 := g.push (.lst (mid.map nD))
      have hb1 : (S1 ++ [Cell.lst (mid.map nD)])[S.length]? = some (.lst (bs.map nD)) := by rw [List.getElem?_append_left (lt_of_get hb)]; exact hb
      have hfo1 : (S1 ++ [Cell.lst (mid.map nD)])[(S ++ [Cell.lst []]).length]? = some (.lst (((cutW (wsOf fs) bs).take i).map nD)) := by rw [List.getElem?_append_left (lt_of_get hfo)]; exact hfo
      have hm1 : (S1 ++ [Cell.lst (mid.map nD)])[S1.length]? = some (.lst (mid.map nD)) := get_new
      generalize hS2 : S1 ++ [Cell.lst (mid.map nD)] = S2 at g1 hb1 hfo1 hm1 ⊢
      refine ⟨_, items_lst hm1, ?_⟩
      refine for_inv (fun i' env S' => (∃ (t10 : Option D), env = [some (FD fs), some (XD ts), t2, some (.ref S.length), some (.ref (S ++ [Cell.lst []]).length), some (.int (((wsOf fs).take i).sum : Nat)), t6, some (.str f.1), some (.int f.2), some (.int (ofB (mid.take i') : Nat)), t10]) ∧ S' = S2)
        ⟨⟨_, rfl⟩, rfl⟩ (fun i' env S' hI p hp => ?_) (fun i' d env S' hd hI => ?_) fun env S' hI => ?_
      · rw [List.mem_singleton.mp hp, hI.2]
        exact items_lst hm1
      · obtain ⟨⟨t10, rfl⟩, rfl⟩ := hI
        obtain ⟨b, hb2, rfl⟩ := map_get hd
        simp only [↓wR, ↓wO, ↓wE, ↓wX, wX]
        refine ⟨.inl ⟨by decide, by decide⟩, ⟨some (nD b), ?_⟩, trivial⟩
        rw [take_snoc hb2, ofB_snoc]
        simp only [Int.natCast_add, Int.natCast_mul]
        rfl
      · obtain ⟨⟨t10, rfl⟩, rfl⟩ := hI
        rw [List.length_map, List.take_of_length_le (Nat.le_refl _)]
        simp only [↓wR, ↓wO, ↓wE, ↓wX, wX, items_lst hfo1, hfo1, Option.isSome_some]
        have hi : i < fs.length := len_of hf2
        have hl12 := hf.le
        rw [show ((((wsOf fs).take i).sum : Nat) : Int) + ((f.2 : Nat) : Int) = ((((wsOf fs).take (i + 1)).sum : Nat) : Int) by omega]
        refine ⟨?_, ⟨_, _, _, _, _, _, rfl⟩, g1.set (.inl (by simp)) _, ?_, ?_⟩
        · rw [List.length_map, List.length_take]
          omega
        · rw [List.getElem?_set_ne (by simp)]
          exact hb1
        · rw [get_set hfo1, take_snoc e5, List.map_append]
          rfl
    · obtain ⟨⟨t2, t6, t7, t8, t9, t10, rfl⟩, g, hb, hfo⟩ := hI
      rw [List.length_map, List.take_of_length_le (by rw [cutW_len, List.length_map]; exact Nat.le_refl _)] at hfo
      simp only [↓wR, ↓wO, ↓wE, ↓wX, wX, items_lst hfo]
      exact h S1 g
end
end Lw
namespace Lw
open PySem L2 MP
section
variable {k : Nat} {S : Sto} {Q : D → Sto → Prop}
theorem law_written {fs : List Fd} {n : Nat} {xs : List Nat} (hf : FsOk fs n) (h2 : n ≤ 16) (hx : Fit (wsOf fs) xs) (h : ∀ S', Gr No S S' → Q (XD (cutW (u8 n) (fB (wsOf fs) xs))) S') : W (callF P (k + 1) 26 [FD fs, XD xs] S) Q := by
  have hl := hx.len
  rw [List.length_map] at hl
  have h100 := hun
  have q200 : 200 ≤ sizeLine := by decide
  have hsum : (wsOf fs).sum = 8 * n := hf.sum
  refine w_in (fn := e__law_written.fn) rfl rfl (by decide) ?_
  simp only [e__law_written, b__law_written, ↓wR, ↓wO, ↓wE, ↓wX, wX]
  refine wi_zip ?_
  simp only [↓wR, ↓wO, ↓wE, ↓wX, wX]
  refine for_inv (fun i env S' => (∃ (t2 t5 t6 t7 t8 t9 t10 : Option D), env = [some (FD fs), some (XD xs), t2, some (.ref S.length), some (.ref (S ++ [Cell.lst []]).length), t5, t6, t7, t8, t9, t10]) ∧ Gr No S S' ∧ S'[S.length]? = some (.lst ((fB ((wsOf fs).take i) (xs.take i)).map nD)) ∧ S'[(S ++ [Cell.lst []]).length]? = some (.lst []))
    ⟨⟨_, _, _, _, _, _, _, rfl⟩, ((Gr.refl S).push _).push _, by rw [List.getElem?_append_left (by simp)]; exact get_new, get_new⟩ (fun _ _ _ _ => no_lv) (fun i d env S1 hd hI => ?_) fun env S1 hI => ?_
  · obtain ⟨⟨t2, t5, t6, t7, t8, t9, t10, rfl⟩, g, hb, hfo⟩ := hI
    obtain ⟨y, z, hy, hz, rfl⟩ := zip2_get hd
    obtain ⟨f, hf2, rfl⟩ := map_get hy
    obtain ⟨x, hx2, rfl⟩ := map_get hz
    have hw : (wsOf fs)[i]? = some f.2 := by rw [List.getElem?_map, hf2]; rfl
    have hfe := (hf.each f (List.mem_of_getElem? hf2)).2
    obtain ⟨o1, o2⟩ := down_ok f.2 (List.mem_range.mpr (by omega)) hfe.1
    simp only [fD, ↓wR, ↓wO, ↓wE, ↓wX, wX]
    refine wi_rng3 ?_
    simp only [↓wR, ↓wO, ↓wE, ↓wN, wN, ↓wX, wX]
    have e0 : (fB ((wsOf fs).take i) (xs.take i)).length = ((wsOf fs).take i).sum := fB_len (by rw [List.length_take, List.length_take, List.length_map]; omega)
    have e2 : ((wsOf fs).take (i + 1)).sum = ((wsOf fs).take i).sum + f.2 := by rw [take_snoc hw, List.sum_append]; simp
    have e3 := sum_take_le (wsOf fs) (i + 1)
    refine ⟨o1, for_inv (fun i' env S' => (∃ (t6 : Option D), env = [some (FD fs), some (XD xs), t2, some (.ref S.length), some (.ref (S ++ [Cell.lst []]).length), some (nD x), t6, t7, t8, some (.str f.1), some (.int f.2)]) ∧ Gr No S S' ∧ S'[S.length]? = some (.lst ((fB ((wsOf fs).take i) (xs.take i) ++ (toB f.2 x).take i').map nD)) ∧ S'[(S ++ [Cell.lst []]).length]? = some (.lst []))
      ⟨⟨_, rfl⟩, g, by simpa using hb, hfo⟩ (fun _ _ _ _ => no_lv) (fun i' d env S2 hd hI => ?_) fun env S2 hI => ?_⟩
    · obtain ⟨⟨t6, rfl⟩, g, hb, hfo⟩ := hI
      obtain ⟨hi', rfl⟩ := stepTo_get hd
      rw [o2] at hi'
      have e1 := bit_eq (x := x) hi'
      simp only [↓wR, ↓wO, ↓wE, ↓wX, wX, items_lst hb, hb, Option.isSome_some]
      refine ⟨by omega, ?_, ⟨_, rfl⟩, g.set (.inl (Nat.le_refl _)) _, ?_, ?_⟩
      · rw [List.length_map, List.length_append, e0, List.length_take, toB_len]
        omega
      · rw [get_set hb, take_bits hi', ← List.append_assoc, List.map_append (l₂ := [_])]
        simp only [List.map_cons, List.map_nil, nD]
        rw [← e1]
      · rw [List.getElem?_set_ne (by simp)]
        exact hfo
    · obtain ⟨⟨t6, rfl⟩, g, hb, hfo⟩ := hI
      rw [stepTo_len, o2, List.take_of_length_le (l := toB f.2 x) (by rw [toB_len]; exact Nat.le_refl _)] at hb
      refine ⟨⟨_, _, _, _, _, _, _, rfl⟩, g, ?_, hfo⟩
      rw [hb, take_snoc hx2, take_snoc hw, fB_snoc (by rw [List.length_take, List.length_take, List.length_map]; omega)]
  · obtain ⟨⟨t2, t5, t6, t7, t8, t9, t10, rfl⟩, g, hb, hfo⟩ := hI
    rw [zip2_len (by rw [List.length_map, List.length_map, hl]), List.length_map, List.take_of_length_le (by rw [List.length_map]; exact Nat.le_refl _), List.take_of_length_le (by omega)] at hb
    have e0 : (fB (wsOf fs) xs).length = 8 * n := by
      rw [fB_len hx.len, hsum]
    generalize fB (wsOf fs) xs = bs at hb e0 h
    obtain ⟨o1, o2⟩ := by8_ok n (List.mem_range.mpr (by omega))
    simp only [↓wR, ↓wO, ↓wE, ↓wX, wX]
    refine wi_rng3 ?_
    simp only [↓wR, ↓wO, ↓wE, ↓wN, wN, ↓wX, wX, items_lst hb, List.length_map]
    rw [e0]
    refine ⟨o1, ?_⟩
    refine for_inv (fun i env S' => (∃ (t2 t5 t6 t7 t8 t9 t10 : Option D), env = [some (FD fs), some (XD xs), t2, some (.ref S.length), some (.ref (S ++ [Cell.lst []]).length), t5, t6, t7, t8, t9, t10]) ∧ Gr No S S' ∧ S'[S.length]? = some (.lst (bs.map nD)) ∧ S'[(S ++ [Cell.lst []]).length]? = some (.lst (((cutW (u8 n) bs).take i).map nD)))
      ⟨⟨_, _, _, _, _, _, _, rfl⟩, g, hb, hfo⟩ (fun _ _ _ _ => no_lv) (fun i d env S1 hd hI => ?_) fun env S1 hI => ?_
    · obtain ⟨⟨t2, t5, t6, t7, t8, t9, t10, rfl⟩, g, hb, hfo⟩ := hI
      obtain ⟨hi, rfl⟩ := stepTo_get hd
      rw [o2] at hi
      have hw : (u8 n)[i]? = some 8 := by rw [List.getElem?_replicate, if_pos hi]
      have e5 := cutW_get (bs := bs) hw
      rw [u8_take (by omega), u8_sum] at e5
      simp only [↓wR, ↓wO, ↓wE, ↓wX, wX, items_lst hb]
      rw [show (0 + (i : Int) * 8) = ((8 * i : Nat) : Int) by omega, show (((8 * i : Nat) : Int) + 8) = ((8 * i + 8 : Nat) : Int) by omega, cut_nats (by omega) (by omega), Nat.add_sub_cancel_left]
      refine ⟨?_, ?_⟩
      · rw [List.length_map, List.length_take]
        omega
      generalize hm : (bs.drop (8 * i)).take 8 = mid at e5 ⊢
      have g1 := g.push (.lst (mid.map nD))
      have hb1 : (S1 ++ [Cell.lst (mid.map nD)])[S.length]? = some (.lst (bs.map nD)) := by rw [List.getElem?_append_left (lt_of_get hb)]; exact hb
      have hfo1 : (S1 ++ [Cell.lst (mid.map nD)])[(S ++ [Cell.lst []]).length]? = some (.lst (((cutW (u8 n) bs).take i).map nD)) := by rw [List.getElem?_append_left (lt_of_get hfo)]; exact hfo
      have hm1 : (S1 ++ [Cell.lst (mid.map nD)])[S1.length]? = some (.lst (mid.map nD)) := get_new
      generalize hS2 : S1 ++ [Cell.lst (mid.map nD)] = S2 at g1 hb1 hfo1 hm1 ⊢
      refine ⟨_, items_lst hm1, ?_⟩
      refine for_inv (fun i' env S' => (∃ (t8 : Option D), env = [some (FD fs), some (XD xs), some (.int ((8 * i : Nat) : Int)), some (.ref S.length), some (.ref (S ++ [Cell.lst []]).length), t5, t6, some (.int (ofB (mid.take i') : Nat)), t8, t9, t10]) ∧ S' = S2)
        ⟨⟨_, rfl⟩, rfl⟩ (fun i' env S' hI p hp => ?_) (fun i' d env S' hd hI => ?_) fun env S' hI => ?_
      · rw [List.mem_singleton.mp hp, hI.2]
        exact items_lst hm1
      · obtain ⟨⟨t8, rfl⟩, rfl⟩ := hI
        obtain ⟨b, hb2, rfl⟩ := map_get hd
        simp only [↓wR, ↓wO, ↓wE, ↓wX, wX]
        refine ⟨.inl ⟨by decide, by decide⟩, ⟨some (nD b), ?_⟩, trivial⟩
        rw [take_snoc hb2, ofB_snoc]
        simp only [Int.natCast_add, Int.natCast_mul]
        rfl
      · obtain ⟨⟨t8, rfl⟩, rfl⟩ := hI
        rw [List.length_map, List.take_of_length_le (Nat.le_refl _)]
        simp only [↓wR, ↓wO, ↓wE, ↓wX, wX, items_lst hfo1, hfo1, Option.isSome_some]
        refine ⟨?_, ⟨_, _, _, _, _, _, _, rfl⟩, g1.set (.inl (by simp)) _, ?_, ?_⟩
        · rw [List.length_map, List.length_take]
          omega
        · rw [List.getElem?_set_ne (by simp)]
          exact hb1
        · rw [get_set hfo1, take_snoc e5, List.map_append]
          rfl
    · obtain ⟨⟨t2, t5, t6, t7, t8, t9, t10, rfl⟩, g, hb, hfo⟩ := hI
      rw [stepTo_len, o2, List.take_of_length_le (by rw [cutW_len, List.length_replicate]; exact Nat.le_refl _)] at hfo
      simp only [↓wR, ↓wO, ↓wE, ↓wX, wX, items_lst hfo]
      exact h S1 g
/-! the program's own -/
theorem small_num {bs : List Nat} (hb : Bits bs) (h : bs.length ≤ 128) : ((ofB bs : Nat) : Int).natAbs < 2 ^ 4096 := by
  have h1 := ofB_lt hb
  have h2 : 2 ^ bs.length ≤ 2 ^ 128 := Nat.pow_le_pow_right (by decide) h
  have h3 : 2 ^ 128 < 2 ^ 4096 := by decide +kernel
  omega
theorem read_by {fs : List Fd} {n : Nat} {ts : List Nat} (hf : FsOk fs n) (h2 : n ≤ 16) (ht : Fit (u8 n) ts) (h : ∀ S', Gr No S S' → Q (XD (cutW (wsOf fs) (fB (u8 n) ts))) S') : W (callF P (k + 1) 10 [FD fs, XD ts] S) Q := by
  have hl := ht.len
  rw [List.length_replicate] at hl
  have q200 : 200 ≤ sizeLine := by decide
  have hsum : (wsOf fs).sum = 8 * n := hf.sum
  refine w_in (fn := e_read_by.fn) rfl rfl (by decide) ?_
  simp only [e_read_by, b_read_by, ↓wR, ↓wO, ↓wE, ↓wX, wX, List.length_map]
  refine ⟨.inl ⟨by decide, by decide⟩, ?_⟩
  refine for_inv (fun i env S' => (∃ (t2 t6 t7 : Option D), env = [some (FD fs), some (XD ts), t2, some (.int (ofB (fB (u8 i) (ts.take i)) : Nat)), some (.int (8 * (ts.length : Int))), some (.ref S.length), t6, t7]) ∧ S' = S ++ [.lst []])
    ⟨⟨_, _, _, rfl⟩, rfl⟩ (fun _ _ _ _ => no_lv) (fun i d env S1 hd hI => ?_) fun env S1 hI => ?_
  · obtain ⟨⟨t2, t6, t7, rfl⟩, rfl⟩ := hI
    obtain ⟨b, hb2, rfl⟩ := map_get hd
    have hi : i < ts.length := len_of hb2
    have hw : (u8 n)[i]? = some 8 := by rw [List.getElem?_replicate, if_pos (by omega)]
    have hb : b < 2 ^ 8 := ht.get hw hb2
    simp only [↓wR, ↓wO, ↓wE, ↓wX, wX]
    refine ⟨.inr ⟨by decide, by decide⟩, ⟨some (nD b), t6, t7, ?_⟩, trivial⟩
    rw [take_snoc hb2, u8_succ, ofB_fB_snoc (by rw [List.length_take, List.length_replicate]; omega) hb]
    simp only [Int.natCast_add, Int.natCast_mul]
    rfl
  · obtain ⟨⟨t2, t6, t7, rfl⟩, rfl⟩ := hI
    rw [List.length_map, List.take_of_length_le (Nat.le_refl _), hl]
    have e0 : (fB (u8 n) ts).length = 8 * n := by
      rw [fB_len (by rw [List.length_replicate]; exact hl), u8_sum]
    have hbits : Bits (fB (u8 n) ts) := fB_bits
    generalize fB (u8 n) ts = bs at e0 hbits h ⊢
    simp only [↓wR, ↓wO, ↓wE, ↓wX, wX]
    refine for_inv (fun i env S' => (∃ (t2 t6 t7 : Option D), env = [some (FD fs), some (XD ts), t2, some (.int (ofB bs : Nat)), some (.int ((8 * n - ((wsOf fs).take i).sum : Nat) : Int)), some (.ref S.length), t6, t7]) ∧ Gr No S S' ∧ S'[S.length]? = some (.lst (((cutW (wsOf fs) bs).take i).map nD)))
      ⟨⟨t2, t6, t7, by simp⟩, (Gr.refl S).push _, get_new⟩ (fun _ _ _ _ => no_lv) (fun i d env S1 hd hI => ?_) fun env S1 hI => ?_
    · obtain ⟨⟨t2, t6, t7, rfl⟩, g, hfo⟩ := hI
      obtain ⟨f, hf2, rfl⟩ := map_get hd
      have hw : (wsOf fs)[i]? = some f.2 := by rw [List.getElem?_map, hf2]; rfl
      have hfe := (hf.each f (List.mem_of_getElem? hf2)).2
      have e2 : ((wsOf fs).take (i + 1)).sum = ((wsOf fs).take i).sum + f.2 := by rw [take_snoc hw, List.sum_append]; simp
      have e3 := sum_take_le (wsOf fs) (i + 1)
      have e5 := cutW_get (bs := bs) hw
      have e6 := ofB_part hbits (s := ((wsOf fs).take i).sum) (w := f.2) (by omega)
      simp only [fD, ↓wR, ↓wO, ↓wE, ↓wX, wX, items_lst hfo, hfo, Option.isSome_some]
      rw [show ((8 * n - ((wsOf fs).take i).sum : Nat) : Int) - ((f.2 : Nat) : Int) = ((8 * n - ((wsOf fs).take (i + 1)).sum : Nat) : Int) by omega]
      have hi : i < fs.length := len_of hf2
      have hl12 := hf.le
      have e7 : ((ofB bs : Nat) : Int) / 2 ^ ((8 * n - ((wsOf fs).take (i + 1)).sum : Nat) : Int).toNat % (1 * 2 ^ ((f.2 : Nat) : Int).toNat) = ((ofB ((bs.drop ((wsOf fs).take i).sum).take f.2) : Nat) : Int) := by
        rw [← e6, e0, e2, shl_one]
        simp
      rw [e7]
      have p2 := two_pos f.2
      refine ⟨by omega, ⟨by omega, by omega, by decide⟩, by rw [shl_one]; omega, ?_, ⟨_, _, _, rfl⟩, g.set (.inl (Nat.le_refl _)) _, ?_⟩
      · rw [List.length_map, List.length_take]
        omega
      · rw [get_set hfo, take_snoc e5, List.map_append]
        rfl
    · obtain ⟨⟨t2, t6, t7, rfl⟩, g, hfo⟩ := hI
      rw [List.length_map, List.take_of_length_le (by rw [cutW_len, List.length_map]; exact Nat.le_refl _)] at hfo
      simp only [↓wR, ↓wO, ↓wE, ↓wX, wX, items_lst hfo]
      exact h S1 g
theorem written_by {fs : List Fd} {n : Nat} {xs : List Nat} (hf : FsOk fs n) (h2 : n ≤ 16) (hx : Fit (wsOf fs) xs) (h : ∀ S', Gr No S S' → Q (XD (cutW (u8 n) (fB (wsOf fs) xs))) S') : W (callF P (k + 2) 11 [FD fs, XD xs] S) Q := by
  have hl := hx.len
  rw [List.length_map] at hl
  have q200 : 200 ≤ sizeLine := by decide
  have hsum : (wsOf fs).sum = 8 * n := hf.sum
  refine w_in (fn := e_written_by.fn) rfl rfl (by decide) ?_
  simp only [e_written_by, b_written_by, ↓wR, ↓wO, ↓wE, ↓wX, wX]
  refine wi_zip ?_
  simp only [↓wR, ↓wO, ↓wE, ↓wX, wX]
  refine for_inv (fun i env S' => (∃ (t3 t4 t5 t6 : Option D), env = [some (FD fs), some (XD xs), some (.int (ofB (fB ((wsOf fs).take i) (xs.take i)) : Nat)), t3, t4, t5, t6]) ∧ S' = S)
    ⟨⟨_, _, _, _, rfl⟩, rfl⟩ (fun _ _ _ _ => no_lv) (fun i d env S1 hd hI => ?_) fun env S1 hI => ?_
  · obtain ⟨⟨t3, t4, t5, t6, rfl⟩, rfl⟩ := hI
    obtain ⟨y, z, hy, hz, rfl⟩ := zip2_get hd
    obtain ⟨x, hx2, rfl⟩ := map_get hy
    obtain ⟨f, hf2, rfl⟩ := map_get hz
    have hw : (wsOf fs)[i]? = some f.2 := by rw [List.getElem?_map, hf2]; rfl
    have hfe := (hf.each f (List.mem_of_getElem? hf2)).2
    have hi : i < fs.length := len_of hf2
    have e3 := sum_take_le (wsOf fs) i
    simp only [fD, ↓wR, ↓wO, ↓wE, ↓wX, wX]
    refine ⟨⟨by omega, by omega, small_num fB_bits ?_⟩, ⟨some (nD x), some (.str f.1), some (.int f.2), t6, ?_⟩, trivial⟩
    · rw [fB_len (by rw [List.length_take, List.length_take, List.length_map]; omega)]
      omega
    · rw [take_snoc hx2, take_snoc hw, ofB_fB_snoc (by rw [List.length_take, List.length_take, List.length_map]; omega) (hx.get hw hx2)]
      rw [shl_nat]
      simp only [Int.natCast_add]
  · obtain ⟨⟨t3, t4, t5, t6, rfl⟩, rfl⟩ := hI
    rw [zip2_len (by rw [List.length_map, List.length_map, hl]), List.length_map, List.take_of_length_le (by rw [List.length_map]; omega), List.take_of_length_le (by omega)]
    have e0 : (fB (wsOf fs) xs).length = 8 * n := by
      rw [fB_len hx.len, hsum]
    have hbits : Bits (fB (wsOf fs) xs) := fB_bits
    generalize fB (wsOf fs) xs = bs at e0 hbits h ⊢
    simp only [↓wR, ↓wO, ↓wE, ↓wX, wX]
    refine wi_revr ?_
    simp only [↓wR, ↓wO, ↓wE, ↓wX, wX]
    refine size_by hf fun S2 g2 => ?_
    simp only [↓wR, ↓wO, ↓wE, ↓wN, wN, ↓wX, wX]
    refine ⟨⟨by omega, by omega⟩, ?_⟩
    refine lc_map (X := No) (fun i _ => nD ((cutW (u8 n) bs)[i]?.getD 0)) ?_ (fun _ _ => no_lv) (fun _ z => z.elim) (fun i d S3 hd g => ?_) fun S3 hg g => ?_
    · rw [stepTo_len]
      omega
    · obtain ⟨hi, rfl⟩ := stepTo_get hd
      have hi : i < n := by omega
      have hw : (u8 n)[i]? = some 8 := by rw [List.getElem?_replicate, if_pos hi]
      have e5 := cutW_get (bs := bs) hw
      rw [u8_take (by omega), u8_sum] at e5
      have e6 := ofB_part hbits (s := 8 * i) (w := 8) (by omega)
      simp only [↓wR, ↓wO, ↓wE, ↓wX, wX]
      refine ⟨.inl ⟨by decide, by decide⟩, by omega, by decide, ?_, Gr.refl _⟩
      rw [e5]
      show D.int _ = D.int _
      congr 1
      rw [Option.getD_some, ← e6, e0, show (8 * (0 + (((n : Int) - 0).toNat : Int) - 1 + (i : Int) * -1)).toNat = 8 * n - (8 * i + 8) by omega]
      simp
    · have e : ((stepTo (0 + (((n : Int) - 0).toNat : Int) - 1) (-1) ((n : Int) - 0).toNat).mapIdx fun i _ => nD ((cutW (u8 n) bs)[i]?.getD 0)) = (cutW (u8 n) bs).map nD := by
        apply List.ext_getElem?
        intro i
        rw [List.getElem?_mapIdx, List.getElem?_map]
        by_cases hi : i < n
        · have h1 : i < (stepTo (0 + (((n : Int) - 0).toNat : Int) - 1) (-1) ((n : Int) - 0).toNat).length := by rw [stepTo_len]; omega
          have h2 : i < (cutW (u8 n) bs).length := by rw [cutW_len, List.length_replicate]; exact hi
          rw [List.getElem?_eq_getElem h1, List.getElem?_eq_getElem h2]
          rfl
        · have h1 : (stepTo (0 + (((n : Int) - 0).toNat : Int) - 1) (-1) ((n : Int) - 0).toNat).length ≤ i := by rw [stepTo_len]; omega
          have h2 : (cutW (u8 n) bs).length ≤ i := by rw [cutW_len, List.length_replicate]; omega
          rw [List.getElem?_eq_none h1, List.getElem?_eq_none h2]
          rfl
      rw [e] at hg
      simp only [↓wR, ↓wO, ↓wE, ↓wX, wX, items_lst hg]
      exact h S3 (g2.trans g)
end
end Lw
namespace Lw
open PySem L2 MP
section
variable {k : Nat} {S : Sto} {Q : D → Sto → Prop}
theorem are_bytes {n : Nat} {ts : List Nat} (ht : Fit (u8 n) ts) (h2 : n ≤ 16) (h : ∀ S', Gr No S S' → Q (.bl true) S') : W (callF P (k + 3) 7 [XD ts, .int n] S) Q := by
  have hl := ht.len
  rw [List.length_replicate] at hl
  have q200 : 200 ≤ sizeLine := by decide
  refine w_in (fn := e_are_bytes.fn) rfl rfl (by decide) ?_
  simp only [e_are_bytes, b_are_bytes, ↓wR, ↓wO, ↓wE, ↓wX, wX, Ty.isi, List.length_map]
  rw [if_pos (by omega)]
  refine lc_map (X := No) (fun _ _ => .bl true) (by rw [List.length_map]; omega) (fun _ _ => no_lv) (fun _ z => z.elim) (fun i d S1 hd g => ?_) fun S1 hg g => ?_
  · obtain ⟨b, hb2, rfl⟩ := map_get hd
    have hi : i < ts.length := len_of hb2
    have hw : (u8 n)[i]? = some 8 := by rw [List.getElem?_replicate, if_pos (by omega)]
    have hb : b < 2 ^ 8 := ht.get hw hb2
    simp only [↓wR, ↓wO, ↓wE, ↓wX, wX]
    exact between (by omega) (by omega) ⟨rfl, Gr.refl _⟩
  · rw [all_true (items_lst hg)]
    exact h S1 g
theorem are_field_words {fs : List Fd} {n : Nat} {xs : List Nat} (hf : FsOk fs n) (hx : Fit (wsOf fs) xs) (h : ∀ S', Gr No S S' → Q (.bl true) S') : W (callF P (k + 3) 8 [FD fs, XD xs] S) Q := by
  have hl := hx.len
  rw [List.length_map] at hl
  have hl12 := hf.le
  have q200 : 200 ≤ sizeLine := by decide
  refine w_in (fn := e_are_field_words.fn) rfl rfl (by decide) ?_
  simp only [e_are_field_words, b_are_field_words, ↓wR, ↓wO, ↓wE, ↓wX, wX, Ty.isi, List.length_map, hl]
  rw [if_pos trivial]
  try simp only [↓wR, ↓wO, ↓wE, ↓wX, wX]
  refine wi_zip ?_
  simp only [↓wR, ↓wO, ↓wE, ↓wX, wX]
  refine lc_map (X := No) (fun _ _ => .bl true) (by rw [zip2_len (by rw [List.length_map, List.length_map, hl]), List.length_map]; omega) (fun _ _ => no_lv) (fun _ z => z.elim) (fun i d S1 hd g => ?_) fun S1 hg g => ?_
  · obtain ⟨y, z, hy, hz, rfl⟩ := zip2_get hd
    obtain ⟨x, hx2, rfl⟩ := map_get hy
    obtain ⟨f, hf2, rfl⟩ := map_get hz
    have hw : (wsOf fs)[i]? = some f.2 := by rw [List.getElem?_map, hf2]; rfl
    have hfe := (hf.each f (List.mem_of_getElem? hf2)).2
    have hb := hx.get hw hx2
    simp only [fD, ↓wR, ↓wO, ↓wE, ↓wX, wX]
    refine ⟨⟨by omega, by omega, by decide⟩, ?_⟩
    rw [shl_one]
    exact between (by omega) (by omega) ⟨rfl, Gr.refl _⟩
  · rw [all_true (items_lst hg)]
    exact h S1 g
variable {hs : List Hd} {at_ : Nat} {hd : Hd} {n : Nat}
theorem size_of (hh : HsOk hs) (hi : hs[at_]? = some hd) (hf : FsOk hd.2 n) (h : ∀ S', Gr No S S' → Q (.int n) S') : W (callF P (k + 6) 13 [HD hs, .int at_] S) Q := by
  refine w_in (fn := e_size_of.fn) rfl rfl (by decide) ?_
  simp only [e_size_of, b_size_of, ↓wR, ↓wO, ↓wE, ↓wX, wX]
  refine fields_at hh hi fun S1 g1 => ?_
  refine size_by hf fun S2 g2 => h S2 (g1.trans g2)
theorem read_header {ts : List Nat} (hh : HsOk hs) (hi : hs[at_]? = some hd) (hf : FsOk hd.2 n) (h2 : n ≤ 16) (ht : Fit (u8 n) ts) (h : ∀ S', Gr No S S' → Q (XD (cutW (wsOf hd.2) (fB (u8 n) ts))) S') : W (callF P (k + 6) 14 [HD hs, .int at_, XD ts] S) Q := by
  have hl := ht.len
  rw [List.length_replicate] at hl
  refine w_in (fn := e_read_header.fn) rfl rfl (by decide) ?_
  simp only [e_read_header, b_read_header, ↓wR, ↓wO, ↓wE, ↓wX, wX]
  refine fields_at hh hi fun S1 g1 => ?_
  try simp only [↓wR, ↓wO, ↓wE, ↓wX, wX]
  refine size_by hf fun S2 g2 => ?_
  try simp only [↓wR, ↓wO, ↓wE, ↓wX, wX]
  refine are_bytes ht h2 fun S3 g3 => ?_
  simp only [↓wR, ↓wO, ↓wE, ↓wX, wX, Bool.not_true]
  refine size_by hf fun S4 g4 => ?_
  simp only [↓wR, ↓wO, ↓wE, ↓wX, wX, List.length_map, hl]
  rw [if_pos trivial]
  try simp only [↓wR, ↓wO, ↓wE, ↓wX, wX]
  refine read_by hf h2 ht fun S5 g5 => h S5 ((((g1.trans g2).trans g3).trans g4).trans g5)
theorem write_header {xs : List Nat} (hh : HsOk hs) (hi : hs[at_]? = some hd) (hf : FsOk hd.2 n) (h2 : n ≤ 16) (hx : Fit (wsOf hd.2) xs) (h : ∀ S', Gr No S S' → Q (XD (cutW (u8 n) (fB (wsOf hd.2) xs))) S') : W (callF P (k + 6) 15 [HD hs, .int at_, XD xs] S) Q := by
  refine w_in (fn := e_write_header.fn) rfl rfl (by decide) ?_
  simp only [e_write_header, b_write_header, ↓wR, ↓wO, ↓wE, ↓wX, wX]
  refine fields_at hh hi fun S1 g1 => ?_
  try simp only [↓wR, ↓wO, ↓wE, ↓wX, wX]
  refine are_field_words hf hx fun S3 g3 => ?_
  simp only [↓wR, ↓wO, ↓wE, ↓wX, wX, Bool.not_true]
  refine written_by hf h2 hx fun S5 g5 => h S5 ((g1.trans g3).trans g5)
/-! texts of words -/
def xP (xs : List Nat) : PyData := .tuple (xs.map fun x => .int (x : Nat))
theorem py_x (S : Sto) (xs : List Nat) : py S (XD xs) = some (xP xs) := by
  have e : pyTs (xs.map nD) = some (xs.map fun x => PyData.int (x : Nat)) := by
    have := pyTs_ints (xs.map fun x => ((x : Nat) : Int))
    rw [List.map_map, List.map_map] at this
    exact this
  show pyT (XD xs) = _
  simp only [XD, pyT, e]
  rfl
theorem xP_ok {xs : List Nat} (h : ∀ x ∈ xs, x < 10 ^ 10) (hl : xs.length ≤ 100) : reprOk (xP xs) := by
  refine (sh_tup (n := 11) (d := 0) (m := 100) (fun p hp => ?_) (by rw [List.length_map]; exact hl)).repr (by decide) (by decide)
  obtain ⟨x, hx, rfl⟩ := List.mem_map.mp hp
  exact sh_nat (by decide) (by decide) (h x hx)
theorem bytes_ok {ts : List Nat} (ht : Fit (u8 n) ts) (h2 : n ≤ 16) : reprOk (xP ts) := by
  have hl := ht.len
  rw [List.length_replicate] at hl
  refine xP_ok (fun x hx => ?_) (by omega)
  obtain ⟨i, hi, rfl⟩ := List.mem_iff_getElem.mp hx
  have hw : (u8 n)[i]? = some 8 := by rw [List.getElem?_replicate, if_pos (by omega)]
  have hb := ht.get hw (List.getElem?_eq_getElem hi)
  omega
theorem words_ok {fs : List Fd} {xs : List Nat} (hf : FsOk fs n) (hx : Fit (wsOf fs) xs) : reprOk (xP xs) := by
  have hl := hx.len
  rw [List.length_map] at hl
  have hl12 := hf.le
  refine xP_ok (fun x hx' => ?_) (by omega)
  obtain ⟨i, hi, rfl⟩ := List.mem_iff_getElem.mp hx'
  have hw : (wsOf fs)[i]? = some (fs[i]'(by omega)).2 := by rw [List.getElem?_map, List.getElem?_eq_getElem (by omega)]; rfl
  have hb := hx.get hw (List.getElem?_eq_getElem hi)
  have hfe := (hf.each _ (List.getElem_mem (by omega : i < fs.length))).2
  have := pow32 hfe.2
  omega
/-- bytes and words that stand for each other -/
structure Tw (fs : List Fd) (n : Nat) (ts xs : List Nat) : Prop where
  ft : Fit (u8 n) ts
  fx : Fit (wsOf fs) xs
  eq : fB (wsOf fs) xs = fB (u8 n) ts
theorem Tw.of_bytes {fs : List Fd} {ts : List Nat} (hf : FsOk fs n) (ht : Fit (u8 n) ts) : Tw fs n ts (cutW (wsOf fs) (fB (u8 n) ts)) := by
  have hs : (wsOf fs).sum = 8 * n := hf.sum
  have e : (fB (u8 n) ts).length = (wsOf fs).sum := by rw [fB_len ht.len, u8_sum, hs]
  exact ⟨ht, cutW_fit fB_bits e, fB_cutW fB_bits e⟩
theorem Tw.of_words {fs : List Fd} {xs : List Nat} (hf : FsOk fs n) (hx : Fit (wsOf fs) xs) : Tw fs n (cutW (u8 n) (fB (wsOf fs) xs)) xs := by
  have hs : (wsOf fs).sum = 8 * n := hf.sum
  have e : (fB (wsOf fs) xs).length = (u8 n).sum := by rw [fB_len hx.len, u8_sum, hs]
  exact ⟨cutW_fit fB_bits e, hx, (fB_cutW fB_bits e).symm⟩
theorem Tw.read {fs : List Fd} {ts xs : List Nat} (h : Tw fs n ts xs) : cutW (wsOf fs) (fB (u8 n) ts) = xs := by rw [← h.eq, cutW_fB h.fx]
theorem Tw.written {fs : List Fd} {ts xs : List Nat} (h : Tw fs n ts xs) : cutW (u8 n) (fB (wsOf fs) xs) = ts := by rw [h.eq, cutW_fB h.ft]
theorem there {ts xs : List Nat} (hh : HsOk hs) (hi : hs[at_]? = some hd) (hf : FsOk hd.2 n) (h2 : n ≤ 16) (tw : Tw hd.2 n ts xs) (h : ∀ S', Gr No S S' → Q (.bl true) S') : W (callF P (k + 7) 29 [HD hs, .int at_, XD ts, XD xs] S) Q := by
  have o1 := bytes_ok tw.ft h2
  have o2 := words_ok hf tw.fx
  refine w_in (fn := e__law_there.fn) rfl rfl (by decide) ?_
  simp only [e__law_there, b__law_there, ↓wR, ↓wO, ↓wE, ↓wX, wX]
  refine read_header hh hi hf h2 tw.ft fun S1 g1 => ?_
  rw [tw.read, w_repr (py_x _ _) o2, w_repr (py_x _ _) o2]
  simp only [↓wR, ↓wO, ↓wE, ↓wX, wX]
  rw [if_pos trivial]
  try simp only [↓wR, ↓wO, ↓wE, ↓wX, wX]
  refine write_header hh hi hf h2 tw.fx fun S2 g2 => ?_
  rw [tw.written, w_repr (py_x _ _) o1, w_repr (py_x _ _) o1]
  simp only [↓wR, ↓wO, ↓wE, ↓wX, wX]
  rw [if_pos trivial]
  try simp only [↓wR, ↓wO, ↓wE, ↓wX, wX]
  have ep : ∀ a b c : D, permD [2, 1, 0] [c, b, a] = some [a, b, c] := fun _ _ _ => rfl
  rw [ep]
  simp only [↓wR, ↓wO, ↓wE, ↓wX, wX]
  refine read_header hh hi hf h2 tw.ft fun S3 g3 => ?_
  rw [tw.read, w_repr (py_x _ _) o2, w_repr (py_x _ _) o2]
  simp only [↓wR, ↓wO, ↓wE, ↓wX, wX]
  rw [if_pos trivial]
  try simp only [↓wR, ↓wO, ↓wE, ↓wX, wX]
  try rw [ep]
  try simp only [↓wR, ↓wO, ↓wE, ↓wX, wX]
  refine write_header hh hi hf h2 tw.fx fun S4 g4 => ?_
  rw [tw.written, w_repr (py_x _ _) o1, w_repr (py_x _ _) o1]
  simp only [↓wR, ↓wO, ↓wE, ↓wX, wX, decide_true]
  exact h S4 (((g1.trans g2).trans g3).trans g4)
end
end Lw
namespace Lw
open PySem L2 MP
theorem Fit.snoc {ws xs : List Nat} {w x : Nat} (h : Fit ws xs) (hx : x < 2 ^ w) : Fit (ws ++ [w]) (xs ++ [x]) := by
  induction h with
  | nil => exact .cons hx .nil
  | cons q r ih => exact .cons q ih
theorem rep_one (m : Nat) (d : D) : (List.replicate m [d]).flatten = List.replicate m d := by
  induction m with
  | zero => rfl
  | succ m ih => rw [List.replicate_succ, List.flatten_cons, ih]; rfl
theorem rep_nat (m x : Nat) : List.replicate m (nD x) = (List.replicate m x).map nD := by rw [List.map_replicate]
theorem Fit.rep {w x : Nat} (h : x < 2 ^ w) : ∀ m, Fit (List.replicate m w) (List.replicate m x)
  | 0 => .nil
  | m + 1 => .cons h (Fit.rep h m)
theorem Fit.app {ws xs vs ys : List Nat} (h : Fit ws xs) (h2 : Fit vs ys) : Fit (ws ++ vs) (xs ++ ys) := by
  induction h with
  | nil => exact h2
  | cons q r ih => exact .cons q ih
theorem Fit.set {ws xs : List Nat} {i w x : Nat} (h : Fit ws xs) (hw : ws[i]? = some w) (hx : x < 2 ^ w) : Fit ws (xs.set i x) := by
  refine Fit.of_get (by rw [List.length_set, h.len]) fun m v y h1 h2 => ?_
  by_cases e : i = m
  · subst e
    have hl : i < xs.length := by rw [h.len]; exact len_of hw
    rw [List.getElem?_set_self hl] at h2
    cases h2
    rw [hw] at h1
    cases h1
    exact hx
  · rw [List.getElem?_set_ne e] at h2
    exact h.get h1 h2
theorem Fit.zeros : ∀ ws : List Nat, Fit ws (List.replicate ws.length 0)
  | [] => .nil
  | w :: ws => .cons (two_pos w) (Fit.zeros ws)
section
variable {k : Nat} {S : Sto} {Q : D → Sto → Prop}
theorem bytes {j n : Nat} (hj : Jar j S) (h2 : n ≤ 16) (h : ∀ ts S', Fit (u8 n) ts → JS j S S' → Q (XD ts) S') : W (callF P (k + 3) 27 [.ref j, .int n] S) Q := by
  have q200 : 200 ≤ sizeLine := by decide
  have hn : S.length ≠ j := by have := hj.lt; omega
  refine w_in (fn := e__law_bytes.fn) rfl rfl (by decide) ?_
  simp only [e__law_bytes, b__law_bytes, ↓wR, ↓wO, ↓wE, ↓wX, wX]
  refine wi_rng ?_
  simp only [↓wR, ↓wO, ↓wE, ↓wX, wX]
  refine ⟨⟨by omega, by omega⟩, for_inv (fun i env S' => JS j S S' ∧ ∃ (ts : List Nat) (t3 : Option D), env = [some (.ref j), some (.int n), some (.ref S.length), t3] ∧ S'[S.length]? = some (.lst (ts.map nD)) ∧ Fit (u8 i) ts)
    ⟨(JS.refl hj).push _, [], _, rfl, get_new, .nil⟩ (fun _ _ _ _ => no_lv) (fun i d env S1 hd hI => ?_) fun env S1 hI => ?_⟩
  · obtain ⟨js, ts, t3, rfl, hS, hf⟩ := hI
    obtain ⟨hi, rfl⟩ := upTo_get hd
    have hi : i < n := by simpa using hi
    have hl := hf.len
    rw [List.length_replicate] at hl
    simp only [↓wR, ↓wO, ↓wE, ↓wX, wX, items_lst hS, Option.isSome_some]
    have fin : ∀ (b : Nat) S2, b < 256 → JS j S1 S2 → ∃ l, S2[S.length]? = some (.lst l) ∧ l.length < sizeLine ∧ JS j S (S2.set S.length (.lst (l ++ [nD b]))) ∧ ∃ (ts : List Nat) (t3 : Option D), [some (.ref j), some (.int n), some (.ref S.length), some (D.int (0 + (i : Int)))] = [some (.ref j), some (.int n), some (.ref S.length), t3] ∧ (S2.set S.length (.lst (l ++ [nD b])))[S.length]? = some (.lst (ts.map nD)) ∧ Fit (u8 (i + 1)) ts := fun b S2 hb js2 => by
      have hS2 := js2.get hS hn
      refine ⟨_, hS2, by rw [List.length_map]; omega, (js.trans js2).set hn (Nat.le_refl _) _, ts ++ [b], _, rfl, ?_, ?_⟩
      · rw [get_set hS2, List.map_append]
        rfl
      · rw [u8_succ]
        exact hf.snoc hb
    refine dip js.1 (by omega) (by omega) fun v S2 v1 js2 => ?_
    simp only [↓wR, ↓wO, ↓wE, ↓wX, wX]
    by_cases c : (0 : Int) < v
    · rw [if_pos c]
      try simp only [↓wR, ↓wO, ↓wE, ↓wX, wX]
      refine of_new js2.1 (by simp) (by simp) fun x hx S3 js3 => ?_
      obtain ⟨b, rfl, v1⟩ : ∃ b : Nat, x = nD b ∧ b < 256 := by
        simp only [List.mem_cons, List.not_mem_nil, or_false] at hx
        rcases hx with rfl | rfl | rfl | rfl | rfl | rfl | rfl | rfl
        · exact ⟨0, rfl, by decide⟩
        · exact ⟨1, rfl, by decide⟩
        · exact ⟨2, rfl, by decide⟩
        · exact ⟨7, rfl, by decide⟩
        · exact ⟨35, rfl, by decide⟩
        · exact ⟨128, rfl, by decide⟩
        · exact ⟨254, rfl, by decide⟩
        · exact ⟨255, rfl, by decide⟩
      exact fin b S3 v1 (js2.trans js3)
    · rw [if_neg c]
      try simp only [↓wR, ↓wO, ↓wE, ↓wX, wX]
      refine dip js2.1 (by omega) (by omega) fun b S3 v1 js3 => ?_
      exact fin b S3 (by omega) (js2.trans js3)
  · obtain ⟨js, ts, t3, rfl, hS, hf⟩ := hI
    rw [upTo_len] at hf
    have hf : Fit (u8 n) ts := by simpa using hf
    simp only [↓wR, ↓wO, ↓wE, ↓wX, wX, items_lst hS]
    exact h ts S1 hf js
theorem words {j n : Nat} {fs : List Fd} (hj : Jar j S) (hf : FsOk fs n) (h : ∀ xs S', Fit (wsOf fs) xs → JS j S S' → Q (XD xs) S') : W (callF P (k + 3) 28 [.ref j, FD fs] S) Q := by
  have q200 : 200 ≤ sizeLine := by decide
  have hn : S.length ≠ j := by have := hj.lt; omega
  have hl12 := hf.le
  refine w_in (fn := e__law_words.fn) rfl rfl (by decide) ?_
  simp only [e__law_words, b__law_words, ↓wR, ↓wO, ↓wE, ↓wX, wX]
  refine for_inv (fun i env S' => JS j S S' ∧ ∃ (xs : List Nat) (t3 t4 : Option D), env = [some (.ref j), some (FD fs), some (.ref S.length), t3, t4] ∧ S'[S.length]? = some (.lst (xs.map nD)) ∧ Fit ((wsOf fs).take i) xs)
    ⟨(JS.refl hj).push _, [], _, _, rfl, get_new, .nil⟩ (fun _ _ _ _ => no_lv) (fun i d env S1 hd hI => ?_) fun env S1 hI => ?_
  · obtain ⟨js, xs, t3, t4, rfl, hS, hx⟩ := hI
    obtain ⟨f, hf2, rfl⟩ := map_get hd
    have hw : (wsOf fs)[i]? = some f.2 := by rw [List.getElem?_map, hf2]; rfl
    have hfe := (hf.each f (List.mem_of_getElem? hf2)).2
    have hl := hx.len
    rw [List.length_take, List.length_map] at hl
    simp only [fD, ↓wR, ↓wO, ↓wE, ↓wX, wX, items_lst hS, Option.isSome_some]
    refine word js.1 hfe.1 hfe.2 fun x S2 hx2 js2 => ?_
    have hS2 := js2.get hS hn
    simp only [↓wR, ↓wO, ↓wE, ↓wX, wX, hS2]
    refine ⟨by rw [List.length_map]; omega, (js.trans js2).set hn (Nat.le_refl _) _, xs ++ [x], _, _, rfl, ?_, ?_⟩
    · rw [get_set hS2, List.map_append]
      rfl
    · rw [take_snoc hw]
      exact hx.snoc hx2
  · obtain ⟨js, xs, t3, t4, rfl, hS, hx⟩ := hI
    rw [List.length_map, List.take_of_length_le (by rw [List.length_map]; exact Nat.le_refl _)] at hx
    simp only [↓wR, ↓wO, ↓wE, ↓wX, wX, items_lst hS]
    exact h xs S1 hx js
variable {hs : List Hd} {at_ : Nat} {hd : Hd} {n : Nat}
theorem single (hh : HsOk hs) (hi : hs[at_]? = some hd) (hf : FsOk hd.2 n) (h1 : 1 ≤ n) (h2 : n ≤ 16) (h : ∀ S', Gr No S S' → Q (.bl true) S') : W (callF P (k + 8) 30 [HD hs, .int at_] S) Q := by
  have q200 : 200 ≤ sizeLine := by decide
  have hl12 := hf.le
  refine w_in (fn := e__law_single.fn) rfl rfl (by decide) ?_
  simp only [e__law_single, b__law_single, ↓wR, ↓wO, ↓wE, ↓wX, wX, ati_nat, List.getElem?_map, hi, Option.map_some, hD, List.length_map]
  rw [w_mulR get_new]
  simp only [↓wR, ↓wO, ↓wE, ↓wX, wX, rep_one, List.length_replicate, Int.toNat_natCast, List.length_map]
  refine ⟨⟨by omega, by omega, by show 1 * _ ≤ _; omega⟩, by omega, ?_⟩
  have hb0 : (S ++ [Cell.lst [.int 0]] ++ [.lst (List.replicate hd.2.length (.int 0))])[(S ++ [Cell.lst [.int 0]]).length]? = some (.lst (List.replicate hd.2.length (.int 0))) := get_new
  have g0 : Gr No S (S ++ [Cell.lst [.int 0]] ++ [.lst (List.replicate hd.2.length (.int 0))]) := ((Gr.refl S).push _).push _
  generalize hS0 : S ++ [Cell.lst [.int 0]] ++ [.lst (List.replicate hd.2.length (.int 0))] = S0 at hb0 g0 ⊢
  generalize hm : (S ++ [Cell.lst [.int 0]]).length = m at hb0 ⊢
  refine wi_rng ?_
  simp only [↓wR, ↓wO, ↓wE, ↓wX, wX, List.length_map]
  refine ⟨⟨by omega, by omega⟩, ?_⟩
  refine for_inv (fun i env S' => Gr No S S' ∧ S'[m]? = some (.lst (List.replicate hd.2.length (.int 0))) ∧ ∃ (t4 t5 t6 t7 t8 : Option D), env = [some (HD hs), some (.int at_), some (FD hd.2), some (.ref m), t4, t5, t6, t7, t8])
    ⟨g0, hb0, _, _, _, _, _, rfl⟩ (fun _ _ _ _ => no_lv) (fun i d env S1 hd1 hI => ?_) fun env S1 hI => ?_
  · obtain ⟨g1, hb1, t4, t5, t6, t7, t8, rfl⟩ := hI
    obtain ⟨hi1, rfl⟩ := upTo_get hd1
    have hi1 : i < hd.2.length := by simpa using hi1
    have hw : (wsOf hd.2)[i]? = some hd.2[i].2 := by rw [List.getElem?_map, List.getElem?_eq_getElem hi1]; rfl
    have hfe := (hf.each _ (List.getElem_mem hi1)).2
    rw [show (0 + (i : Int)) = (i : Int) by omega]
    simp only [↓wR, ↓wO, ↓wE, ↓wX, wX]
    refine wi_rng ?_
    simp only [↓wR, ↓wO, ↓wE, ↓wX, wX, ati_nat, List.getElem?_map, List.getElem?_eq_getElem hi1, Option.map_some, fD]
    refine ⟨⟨by omega, by omega⟩, ?_⟩
    refine for_inv (fun i' env S' => Gr No S S' ∧ S'[m]? = some (.lst (List.replicate hd.2.length (.int 0))) ∧ ∃ (t5 t6 t7 t8 : Option D), env = [some (HD hs), some (.int at_), some (FD hd.2), some (.ref m), some (.int i), t5, t6, t7, t8])
      ⟨g1, hb1, _, _, _, _, rfl⟩ (fun _ _ _ _ => no_lv) (fun i' d env S1 hd1 hI => ?_) fun env S1 hI => ?_
    · obtain ⟨g1, hb1, t5, t6, t7, t8, rfl⟩ := hI
      obtain ⟨hi2, rfl⟩ := upTo_get hd1
      have hi2 : i' < hd.2[i].2 := by simpa using hi2
      rw [show (0 + (i' : Int)) = (i' : Int) by omega]
      have c1 : cutD (List.replicate hd.2.length (D.int 0)) none (some (i : Int)) = (List.replicate i 0).map nD := by
        unfold cutD
        rw [HT.sIx_none, HT.sIx_nat, List.length_replicate, Nat.min_eq_left (by omega), List.drop_zero, Nat.sub_zero, List.take_replicate, Nat.min_eq_left (by omega), List.map_replicate]
        rfl
      have c2 : cutD (List.replicate hd.2.length (D.int 0)) (some ((i : Int) + 1)) none = (List.replicate (hd.2.length - (i + 1)) 0).map nD := by
        unfold cutD
        rw [HT.sIx_none, show ((i : Int) + 1) = ((i + 1 : Nat) : Int) by omega, HT.sIx_nat, List.length_replicate, Nat.min_eq_left (by omega), List.drop_replicate, List.take_replicate, Nat.min_self, List.map_replicate]
        rfl
      simp only [↓wR, ↓wO, ↓wE, ↓wX, wX, items_lst hb1, c1]
      refine ⟨by rw [List.length_map, List.length_replicate]; omega, ⟨by omega, by omega, by decide⟩, ?_⟩
      rw [shl_one]
      have a1 : (S1 ++ [Cell.lst ((List.replicate i 0).map nD)])[S1.length]? = some (.lst ((List.replicate i 0).map nD)) := get_new
      have b1 := (Gr.refl (X := No) S1).push (Cell.lst ((List.replicate i 0).map nD))
      generalize hS2 : S1 ++ [Cell.lst ((List.replicate i 0).map nD)] = S2 at a1 b1 ⊢
      have b2 := (Gr.refl (X := No) S2).push (Cell.lst [nD (2 ^ i')])
      have a2 : (S2 ++ [Cell.lst [nD (2 ^ i')]])[S2.length]? = some (.lst [nD (2 ^ i')]) := get_new
      rw [w_addR (b2.get a1 (fun z => z)) a2]
      have g3 := b1.trans b2
      generalize hS3 : S2 ++ [Cell.lst [nD (2 ^ i')]] = S3 at g3 ⊢
      refine ⟨by rw [List.length_append, List.length_map, List.length_replicate]; show _ + 1 ≤ _; omega, ?_⟩
      have g4 := g3.push (.lst ((List.replicate i 0).map nD ++ [nD (2 ^ i')]))
      have a4 : (S3 ++ [Cell.lst ((List.replicate i 0).map nD ++ [nD (2 ^ i')])])[S3.length]? = some (.lst ((List.replicate i 0).map nD ++ [nD (2 ^ i')])) := get_new
      generalize hS4 : S3 ++ [Cell.lst ((List.replicate i 0).map nD ++ [nD (2 ^ i')])] = S4 at g4 a4 ⊢
      simp only [↓wR, ↓wO, ↓wE, ↓wX, wX, items_lst (g4.get hb1 (fun z => z)), c2]
      refine ⟨by rw [List.length_map, List.length_replicate]; omega, ?_⟩
      have b5 := (Gr.refl (X := No) S4).push (Cell.lst ((List.replicate (hd.2.length - (i + 1)) 0).map nD))
      have a5 : (S4 ++ [Cell.lst ((List.replicate (hd.2.length - (i + 1)) 0).map nD)])[S4.length]? = some (.lst ((List.replicate (hd.2.length - (i + 1)) 0).map nD)) := get_new
      rw [w_addR (b5.get a4 (fun z => z)) a5]
      have g5 := g4.trans b5
      generalize hS5 : S4 ++ [Cell.lst ((List.replicate (hd.2.length - (i + 1)) 0).map nD)] = S5 at g5 ⊢
      have ex : (List.replicate i 0).map nD ++ [nD (2 ^ i')] ++ (List.replicate (hd.2.length - (i + 1)) 0).map nD = ((List.replicate hd.2.length 0).set i (2 ^ i')).map nD := by
        rw [List.set_eq_take_append_cons_drop, if_pos (by rw [List.length_replicate]; exact hi1), List.take_replicate, Nat.min_eq_left (by omega), List.drop_replicate, List.map_append, List.map_cons, List.append_assoc]
        rfl
      rw [ex]
      refine ⟨by rw [List.length_map, List.length_set, List.length_replicate]; omega, ?_⟩
      have g6 := g5.push (.lst (((List.replicate hd.2.length 0).set i (2 ^ i')).map nD))
      have a6 : (S5 ++ [Cell.lst (((List.replicate hd.2.length 0).set i (2 ^ i')).map nD)])[S5.length]? = some (.lst (((List.replicate hd.2.length 0).set i (2 ^ i')).map nD)) := get_new
      generalize hS6 : S5 ++ [Cell.lst (((List.replicate hd.2.length 0).set i (2 ^ i')).map nD)] = S6 at g6 a6 ⊢
      have fx : Fit (wsOf hd.2) ((List.replicate hd.2.length 0).set i (2 ^ i')) := by
        have := Fit.zeros (wsOf hd.2)
        rw [List.length_map] at this
        exact this.set hw (Nat.pow_lt_pow_right (by decide) hi2)
      simp only [↓wR, ↓wO, ↓wE, ↓wX, wX, items_lst a6]
      refine law_written hf h2 fx fun S7 g7 => ?_
      try simp only [↓wR, ↓wO, ↓wE, ↓wX, wX]
      refine there hh hi hf h2 (Tw.of_words hf fx) fun S8 g8 => ?_
      simp only [↓wR, ↓wO, ↓wE, ↓wX, wX, Bool.not_true]
      have g9 := (g6.trans g7).trans g8
      exact ⟨g1.trans g9, g9.get hb1 (fun z => z), _, _, _, _, rfl⟩
    · obtain ⟨g1, hb1, t5, t6, t7, t8, rfl⟩ := hI
      exact ⟨g1, hb1, _, _, _, _, _, rfl⟩
  · obtain ⟨g1, hb1, t4, t5, t6, t7, t8, rfl⟩ := hI
    try simp only [↓wR, ↓wO, ↓wE, ↓wX, wX]
    refine law_size hf fun S2 g2 => ?_
    try simp only [↓wR, ↓wO, ↓wE, ↓wX, wX]
    refine wi_rng ?_
    simp only [↓wR, ↓wO, ↓wE, ↓wX, wX]
    refine ⟨.inl ⟨by decide, by decide⟩, ⟨by omega, by omega⟩, ?_⟩
    refine for_inv (fun i env S' => Gr No S S' ∧ ∃ (t4 t6 t7 t8 : Option D), env = [some (HD hs), some (.int at_), some (FD hd.2), some (.ref m), t4, some (.int n), t6, t7, t8])
      ⟨g1.trans g2, _, _, _, _, rfl⟩ (fun _ _ _ _ => no_lv) (fun i d env S1 hd1 hI => ?_) fun env S1 hI => ?_
    · obtain ⟨g1, t4, t6, t7, t8, rfl⟩ := hI
      obtain ⟨hi1, rfl⟩ := upTo_get hd1
      have hi1 : i < 8 * n := by omega
      rw [show (0 + (i : Int)) = (i : Int) by omega]
      simp only [↓wR, ↓wO, ↓wE, ↓wX, wX, w_mulT]
      have e1 : (i : Int) / 8 = ((i / 8 : Nat) : Int) := by omega
      have e2 : (128 : Int) / 2 ^ ((i : Int) % 8).toNat = ((128 / 2 ^ (i % 8) : Nat) : Int) := by
        rw [show (i : Int) % 8 = ((i % 8 : Nat) : Int) by omega, Int.toNat_natCast]
        simp
      have e3 : (n : Int) - 1 - ((i / 8 : Nat) : Int) = ((n - 1 - i / 8 : Nat) : Int) := by omega
      rw [e1, e2, e3]
      simp only [rep_one, Int.toNat_natCast]
      have e4 : List.replicate (i / 8) (D.int 0) ++ [D.int ((128 / 2 ^ (i % 8) : Nat) : Int)] ++ List.replicate (n - 1 - i / 8) (D.int 0) = (List.replicate (i / 8) 0 ++ [128 / 2 ^ (i % 8)] ++ List.replicate (n - 1 - i / 8) 0).map nD := by
        rw [List.map_append, List.map_append, List.map_replicate, List.map_replicate]
        rfl
      have fx : Fit (u8 n) (List.replicate (i / 8) 0 ++ [128 / 2 ^ (i % 8)] ++ List.replicate (n - 1 - i / 8) 0) := by
        have hu : u8 n = u8 (i / 8) ++ [8] ++ u8 (n - 1 - i / 8) := by
          rw [← u8_succ, List.replicate_append_replicate]
          congr 1
          omega
        rw [hu]
        refine Fit.app (Fit.snoc (Fit.rep (by decide) _) ?_) (Fit.rep (by decide) _)
        exact Nat.lt_of_le_of_lt (Nat.div_le_self _ _) (by decide)
      refine ⟨⟨by decide, by decide⟩, ⟨by simp, by omega, by omega, by decide⟩, by decide, by omega, ?_, ⟨by decide, by decide⟩, ⟨by simp, by omega, by omega, by decide⟩, ?_, ?_⟩
      · rw [List.length_replicate]
        show _ + 1 ≤ _
        omega
      · rw [List.length_append, List.length_replicate, List.length_replicate]
        show _ + 1 + _ ≤ _
        omega
      rw [e4]
      refine law_read hf h2 fx fun S7 g7 => ?_
      try simp only [↓wR, ↓wO, ↓wE, ↓wX, wX]
      refine there hh hi hf h2 (Tw.of_bytes hf fx) fun S8 g8 => ?_
      simp only [↓wR, ↓wO, ↓wE, ↓wX, wX, Bool.not_true]
      exact ⟨(g1.trans g7).trans g8, _, _, _, _, rfl⟩
    · obtain ⟨g1, t4, t6, t7, t8, rfl⟩ := hI
      simp only [↓wR, ↓wO, ↓wE, ↓wX, wX]
      exact h S1 g1
end
end Lw
namespace Lw
open PySem L2 MP
theorem HsOk.at {hs : List Hd} (hh : HsOk hs) {i : Nat} (hi : i < hs.length) : ∃ hd n, hs[i]? = some hd ∧ 1 ≤ n ∧ n ≤ 16 ∧ FsOk hd.2 n := by
  obtain ⟨_, n, n1, n2, n3⟩ := hh.each _ (List.getElem_mem hi)
  exact ⟨hs[i], n, List.getElem?_eq_getElem hi, n1, n2, n3⟩
theorem two_ok : ∀ n ∈ List.range 17, okR (.list [.int (n : Nat), .int (n : Nat)]) = true := by decide +kernel
theorem fits_full : ∀ ws : List Nat, Fit ws (ws.map fun w => 2 ^ w - 1)
  | [] => .nil
  | w :: ws => .cons (show 2 ^ w - 1 < 2 ^ w by have := two_pos w; omega) (fits_full ws)
theorem full_tw {fs : List Fd} {n : Nat} (hf : FsOk fs n) : Tw fs n (List.replicate n 255) ((wsOf fs).map fun w => 2 ^ w - 1) := by
  have hs : (wsOf fs).sum = 8 * n := hf.sum
  refine ⟨Fit.rep (by decide) n, fits_full _, ?_⟩
  have e : List.replicate n 255 = (u8 n).map fun w => 2 ^ w - 1 := by rw [List.map_replicate]
  rw [e, fB_ones, fB_ones, hs, u8_sum]
def fullD : D → D
  | .tup [_, .int w] => .int (1 * 2 ^ w.toNat - 1)
  | d => d
theorem full_f (fs : List Fd) : (fs.map fD).map fullD = ((wsOf fs).map fun w => 2 ^ w - 1).map nD := by
  rw [List.map_map, List.map_map, List.map_map]
  refine List.map_congr_left fun f _ => ?_
  show D.int _ = D.int _
  congr 1
  rw [shl_one]
  have := two_pos f.2
  show ((2 ^ f.2 : Nat) : Int) - 1 = ((2 ^ f.2 - 1 : Nat) : Int)
  omega
section
variable {k : Nat} {S : Sto} {Q : D → Sto → Prop}
theorem right {j : Nat} (hj : Jar j S) (h : ∀ S', JS j S S' → Q (.bl true) S') : W (callF P (k + 9) 31 [.ref j] S) Q := by
  have q200 : 200 ≤ sizeLine := by decide
  refine w_in (fn := e__law_right.fn) rfl rfl (by decide) ?_
  simp only [e__law_right, b__law_right, ↓wR, ↓wO, ↓wE, ↓wX, wX]
  refine headers hj fun hs S1 hh js1 => ?_
  have h6 := hh.le
  try simp only [↓wR, ↓wO, ↓wE, ↓wX, wX]
  refine wi_rng ?_
  simp only [↓wR, ↓wO, ↓wE, ↓wX, wX, List.length_map]
  refine ⟨⟨by omega, by omega⟩, ?_⟩
  refine for_inv (fun i env S' => JS j S S' ∧ ∃ (t2 t3 t4 t5 t6 t7 t8 t9 t10 : Option D), env = [some (.ref j), some (HD hs), t2, t3, t4, t5, t6, t7, t8, t9, t10])
    ⟨js1, _, _, _, _, _, _, _, _, _, rfl⟩ (fun _ _ _ _ => no_lv) (fun i d env S1 hd1 hI => ?_) fun env S1 hI => ?_
  · obtain ⟨js, t2, t3, t4, t5, t6, t7, t8, t9, t10, rfl⟩ := hI
    obtain ⟨hi1, rfl⟩ := upTo_get hd1
    have hi1 : i < hs.length := by simpa using hi1
    obtain ⟨hd, n, hi, n1, n2, hf⟩ := hh.at hi1
    have hl12 := hf.le
    rw [show (0 + (i : Int)) = (i : Int) by omega]
    simp only [↓wR, ↓wO, ↓wE, ↓wX, wX, ati_nat, List.getElem?_map, hi, Option.map_some, hD]
    refine law_size hf fun S2 g2 => ?_
    try simp only [↓wR, ↓wO, ↓wE, ↓wX, wX]
    have js2 := js.gr g2
    refine size_of hh hi hf fun S3 g3 => ?_
    have ep : ∀ a b : D, permD [1, 0] [b, a] = some [a, b] := fun _ _ => rfl
    try simp only [↓wR, ↓wO, ↓wE, ↓wX, wX]
    try rw [ep]
    try simp only [↓wR, ↓wO, ↓wE, ↓wX, wX]
    refine size_of hh hi hf fun S4 g4 => ?_
    have two := okR_ok (two_ok n (List.mem_range.mpr (by omega)))
    have js4 := (js2.gr g3).gr g4
    rw [w_repr (py_ref get_new rfl) two, w_repr (py_ref get_new rfl) two]
    simp only [↓wR, ↓wO, ↓wE, ↓wX, wX]
    rw [if_pos trivial]
    try simp only [↓wR, ↓wO, ↓wE, ↓wX, wX]
    have js5 := (js4.push (.lst [.int n, .int n])).push (.lst [.int n, .int n])
    generalize hS5 : S4 ++ [Cell.lst [D.int n, D.int n]] ++ [Cell.lst [D.int n, D.int n]] = S5 at js5 ⊢
    refine wi_rng ?_
    simp only [↓wR, ↓wO, ↓wE, ↓wX, wX]
    refine ⟨⟨by omega, by omega⟩, ?_⟩
    refine for_inv (fun i' env S' => JS j S S' ∧ ∃ (t5 t6 t7 t8 t9 t10 : Option D), env = [some (.ref j), some (HD hs), some (.int i), some (FD hd.2), some (.int n), t5, t6, t7, t8, t9, t10])
      ⟨js5, _, _, _, _, _, _, rfl⟩ (fun _ _ _ _ => no_lv) (fun i' d env S1 hd1 hI => ?_) fun env S1 hI => ?_
    · obtain ⟨js, t5, t6, t7, t8, t9, t10, rfl⟩ := hI
      simp only [↓wR, ↓wO, ↓wE, ↓wX, wX]
      refine bytes js.1 n2 fun ts S6 ft js6 => ?_
      try simp only [↓wR, ↓wO, ↓wE, ↓wX, wX]
      refine words js6.1 hf fun xs S7 fx js7 => ?_
      try simp only [↓wR, ↓wO, ↓wE, ↓wX, wX]
      refine law_read hf n2 ft fun S8 g8 => ?_
      try simp only [↓wR, ↓wO, ↓wE, ↓wX, wX]
      refine there hh hi hf n2 (Tw.of_bytes hf ft) fun S9 g9 => ?_
      simp only [↓wR, ↓wO, ↓wE, ↓wX, wX, Bool.not_true]
      refine law_written hf n2 fx fun S10 g10 => ?_
      try simp only [↓wR, ↓wO, ↓wE, ↓wX, wX]
      refine there hh hi hf n2 (Tw.of_words hf fx) fun S11 g11 => ?_
      simp only [↓wR, ↓wO, ↓wE, ↓wX, wX, Bool.not_true]
      exact ⟨(((((js.trans js6).trans js7).gr g8).gr g9).gr g10).gr g11, _, _, _, _, _, _, rfl⟩
    · obtain ⟨js, t5, t6, t7, t8, t9, t10, rfl⟩ := hI
      simp only [↓wR, ↓wO, ↓wE, ↓wX, wX]
      refine lc_map (X := No) (fun _ d => fullD d) (by rw [List.length_map]; omega) (fun _ _ => no_lv) (fun _ z => z.elim) (fun i d S3 hd g => ?_) fun S3 hg g => ?_
      · obtain ⟨f, hf2, rfl⟩ := map_get hd
        have hfe := (hf.each f (List.mem_of_getElem? hf2)).2
        simp only [fD, ↓wR, ↓wO, ↓wE, ↓wX, wX]
        exact ⟨⟨by omega, by omega, by decide⟩, rfl, Gr.refl _⟩
      · rw [mapIdx_g fullD, full_f] at hg
        simp only [↓wR, ↓wO, ↓wE, ↓wX, wX, items_lst hg, w_mulT]
        refine ⟨⟨by simp, by omega, by omega, by decide⟩, ?_⟩
        rw [rep_one, Int.toNat_natCast, show List.replicate n (D.int 255) = (List.replicate n 255).map nD from rep_nat n 255]
        refine there hh hi hf n2 (full_tw hf) fun S4 g4 => ?_
        simp only [↓wR, ↓wO, ↓wE, ↓wX, wX, Bool.not_true]
        exact ⟨(js.gr g).gr g4, _, _, _, _, _, _, _, _, _, rfl⟩
  · obtain ⟨js, t2, t3, t4, t5, t6, t7, t8, t9, t10, rfl⟩ := hI
    simp only [↓wR, ↓wO, ↓wE, ↓wX, wX, List.length_map]
    have hp := hh.pos
    refine dip js.1 (by omega) (by omega) fun v S2 v1 js2 => ?_
    obtain ⟨hd, n, hi, n1, n2, hf⟩ := hh.at (i := v) (by omega)
    try simp only [↓wR, ↓wO, ↓wE, ↓wX, wX]
    refine single hh hi hf n1 n2 fun S3 g3 => ?_
    exact h S3 ((js.trans js2).gr g3)
theorem jar {t : Nat} {ns : List Int} (hns : ns.length ≤ 63) (h0 : S[0]? = some (.fro (ns.map D.int))) (h : ∀ n S', Jar n S' → S.length ≤ n → Gr No S S' → Q (.ref n) S') : W (callF P (k + 1) 16 [.ref 0, .int t] S) Q := by
  refine w_in (fn := e__law_jar.fn) rfl rfl (by decide) ?_
  simp only [e__law_jar, b__law_jar, ↓wR, ↓wO, ↓wE, ↓wX, wX, items_fro h0]
  have hc : ∀ x ∈ cutD (ns.map D.int) none (some 10), ∃ z : Int, x = .int z := fun x hx => by
    unfold cutD at hx
    obtain ⟨z, _, rfl⟩ := List.mem_map.mp (List.mem_of_mem_drop (List.mem_of_mem_take hx))
    exact ⟨z, rfl⟩
  have hl : (cutD (ns.map D.int) none (some 10)).length ≤ sizeLine := by
    unfold cutD
    rw [List.length_take, List.length_drop, List.length_map]
    exact Nat.le_trans (Nat.min_le_right _ _) (Nat.le_trans (Nat.sub_le _ _) (Nat.le_trans hns (by decide)))
  refine ⟨.inl ⟨by decide, by decide⟩, hl, _, items_lst get_new, ?_⟩
  have g0 : Gr No S (S ++ [Cell.lst (cutD (ns.map D.int) none (some 10))]) := (Gr.refl S).push _
  generalize hS0 : S ++ [Cell.lst (cutD (ns.map D.int) none (some 10))] = S0 at g0
  have hS1 : S0[S.length]? = some (.lst (cutD (ns.map D.int) none (some 10))) := by rw [← hS0]; exact get_new
  have h1 := g0.get h0 (fun z => z)
  refine for_inv (fun i env S' => S' = S0 ∧ ∃ (m : Int) (t2 t3 : Option D), env = [some (.ref 0), some (.int t), some (.int m), t2, t3]) ⟨rfl, _, _, _, rfl⟩ (fun i env S' hI => ?_) (fun i d env S' hd hI => ?_) fun env S' hI => ?_
  · obtain ⟨rfl, _⟩ := hI
    intro p hp
    rw [List.mem_singleton.mp hp]
    exact items_lst hS1
  · obtain ⟨rfl, m, t2, t3, rfl⟩ := hI
    obtain ⟨z, rfl⟩ := hc d (List.mem_of_getElem? hd)
    simp only [↓wR, ↓wO, ↓wE, ↓wX, wX]
    exact ⟨.inr ⟨by decide, by decide⟩, by decide, .inr ⟨by decide, by decide⟩, by decide, _, _, _, rfl⟩
  · obtain ⟨rfl, m, t2, t3, rfl⟩ := hI
    have fin : ∀ a b : Int, 0 ≤ a → Q (.ref S'.length) (S' ++ [.lst [.int a, .int b, .int 0]]) := fun a b z => h _ _ ⟨a, b, 0, get_new, z⟩ g0.1 (g0.push _)
    simp only [↓wR, ↓wO, ↓wE, ↓wX, wX, items_fro h1]
    have pw : (10 : Int) ^ Int.toNat 15 = 1000000000000000 := by decide
    by_cases z : (t : Int) < (ns.map D.int).length
    · rw [if_pos z]
      rw [List.length_map] at z
      have z2 : t < ns.length := by omega
      simp only [ati_nat, List.getElem?_map, List.getElem?_eq_getElem z2, Option.map_some, ↓wR, ↓wO, ↓wE, ↓wX, wX]
      by_cases y : ns[t] < 0
      · rw [if_pos y, if_pos y]
        exact fin _ _ (by omega)
      · rw [if_neg y, if_neg y]
        refine ⟨⟨by decide, by decide, by decide⟩, ?_⟩
        by_cases y2 : (10 : Int) ^ Int.toNat 15 ≤ ns[t]
        · rw [if_pos y2]
          exact fin _ _ (by omega)
        · rw [if_neg y2]
          exact fin _ _ (by omega)
    · rw [if_neg z]
      try simp only [↓wR, ↓wO, ↓wE, ↓wX, wX]
      rw [if_neg (by decide)]
      refine ⟨⟨by decide, by decide, by decide⟩, ?_⟩
      rw [if_neg (by decide)]
      exact fin _ _ (by omega)
theorem law_true {ns : List Int} (hns : ns.length ≤ 63) : W (callF P (k + 10) 32 [.ref 0] [.fro (ns.map D.int)]) fun d _ => d = .bl true := by
  refine w_in (fn := e_law.fn) rfl rfl (by decide) ?_
  have h0 : itemsAt [.fro (ns.map D.int)] 0 = some (ns.map D.int) := rfl
  simp only [e_law, b_law, ↓wR, ↓wO, ↓wE, ↓wX, wX]
  refine wi_rng ?_
  simp only [↓wR, ↓wO, ↓wE, ↓wX, wX, h0]
  refine ⟨⟨by split <;> split <;> omega, by split <;> split <;> simp only [List.length_map] at * <;> omega⟩, ?_⟩
  refine lc_inv (fun i acc S' => acc = List.replicate i (.bl true) ∧ S'[1]? = some (.lst acc) ∧ S'[0]? = some (.fro (ns.map D.int)))
    ⟨rfl, rfl, rfl⟩ (fun i acc S' ⟨_, h, _⟩ => ⟨h, no_lv⟩) (fun i d acc S' hd ⟨h1, h2, h3⟩ => ?_) fun acc S' ⟨h1, h2, h3⟩ => ?_
  · obtain ⟨hi, rfl⟩ := upTo_get hd
    simp only [↓wR, ↓wO, ↓wE, ↓wX, wX]
    rw [show (0 + (i : Int)) = (i : Int) by omega]
    refine jar hns h3 fun n S1 hj hn g => ?_
    refine right hj fun S2 js => ?_
    have z1 : 1 < S'.length := lt_of_get h2
    have e2 := js.get (g.get h2 (fun z => z)) (by omega)
    have e3 := js.get (g.get h3 (fun z => z)) (by omega)
    refine ⟨e2, ?_, ?_, get_set e2, ?_⟩
    · rw [h1, List.length_replicate]
      refine Nat.lt_of_lt_of_le hi ?_
      unfold sizeLine
      split <;> split <;> omega
    · rw [h1, List.replicate_succ']
    · rw [List.getElem?_set_ne (by simp)]
      exact e3
  · rw [h1, show (D.bl true) = D.bl true from rfl, ← List.map_replicate] at h2
    show W (Bn.all.den [D.ref 1] S') _
    rw [w_all (items_lst h2)]
    congr 1
    simp
end
theorem run (ns : List Int) (h : ns.length ≤ 63) : ∃ S', callF P 60 32 [.ref 0] [.fro (ns.map D.int)] = some (.bl true, S') := by
  obtain ⟨d, S', e, rfl⟩ := law_true (k := 50) h
  exact ⟨S', e⟩
end Lw
namespace Lw
open PySem L2 PySem.Spec PyProof.Rows MP
theorem txt : ∀ e ∈ ents, TxtOk (gOf ents cons) e := by
  intro e he
  simp only [ents, List.mem_cons, List.not_mem_nil, or_false] at he
  rcases he with rfl | rfl | rfl | rfl | rfl | rfl | rfl | rfl | rfl | rfl | rfl | rfl | rfl | rfl | rfl | rfl | rfl | rfl | rfl | rfl | rfl | rfl | rfl | rfl | rfl | rfl | rfl | rfl | rfl | rfl | rfl | rfl | rfl
  · exact t_is_name
  · exact t_are_unlike
  · exact t_is_whole
  · exact t_is_between
  · exact t_are_pairs
  · exact t_are_fields
  · exact t_are_headers_by
  · exact t_are_bytes
  · exact t_are_field_words
  · exact t_size_by
  · exact t_read_by
  · exact t_written_by
  · exact t_fields_at
  · exact t_size_of
  · exact t_read_header
  · exact t_write_header
  · exact t__law_jar
  · exact t__law_dip
  · exact t__law_one_of
  · exact t__law_kept
  · exact t__law_name
  · exact t__law_word
  · exact t__law_fields
  · exact t__law_headers
  · exact t__law_size
  · exact t__law_read
  · exact t__law_written
  · exact t__law_bytes
  · exact t__law_words
  · exact t__law_there
  · exact t__law_single
  · exact t__law_right
  · exact t_law
end Lw
open PySem L2 PySem.Spec PyProof.Rows MP in
theorem PySem.Challenge.cw_switchstages_k03_whole_fields_read_and_w_holds : PySem.Challenge.rw_switchstages_k03_whole_fields_read_and_w.Holds := by
  w_on; o_law; k_head; (case hw => w_witness2)
  k_fill
  refine MP.law_walk (l := PySem.Challenge.rw_switchstages_k03_whole_fields_read_and_w) (n := 63) (k := 60) (i := 32) (e := Lw.e_law) (x := "_law_script") (es := Lw.ents) (cs := Lw.cons) rfl (by decide) rfl ⟨rfl, by decide, by decide⟩ rfl rfl rfl (fun w mg h Y G => ⟨_, PySem.W.kIn_of Y, tab_of (PySem.W.kIn_of Y) G ?says Lw.txt⟩) Lw.run
  case says => kernel_rfl
