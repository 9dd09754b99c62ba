import PyProof.Rows.All
import Wide.All
import OpenK.AllK
import Wide.FinOn
import KE.KStateDown
import HandS.ForMost
import HandS.ForSpec
import HandS.More
import HandS.Defaults
import HandS.Wide
import HandS.Zip
import HandS.Sort
import HandS.SortRule
import HandS.SortInts
import HandS.IsInst
import HandS.Head0
import HandS.Head1
import HandS.Head2
import HandS.HeadEnd
import HandS.HeadHook1
import HandS.HeadHook2
import HandS.EndBits
import KE.DataEq
import HandS.Conv
import HandS.Rev
import HandS.Style
import HandS.SetFor
import HandS.Strs
import HandS.ExcOwn
import HandS.ExcIs
import PySem.Challenge.RW_sluice_k33_cut_refused
set_option Elab.async false
set_option linter.all false
set_option maxRecDepth 100000
set_option maxHeartbeats 4000000
namespace Wk
open PySem PySem.Spec PyProof.Rows L2
abbrev Frag := PySem.W.Frag
abbrev Sg : Type := List (Option V)

/-! ### mirrors -/
inductive Res (α : Type) where
  | ok (a : α) | exc (c : Str) | bad
def Res.bi {α β : Type} (m : Res α) (f : α → Res β) : Res β := match m with
  | .ok a => f a
  | .exc c => .exc c
  | .bad => .bad
/-- a guard -/
@[irreducible] def gd {α : Type} (c : Prop) [Decidable c] (a : α) : Res α := if c then .ok a else .bad
/-- what may not raise -/
def Res.nx {α : Type} : Res α → Res α
  | .ok a => .ok a
  | _ => .bad
def mwp {α : Type} (m : Res α) (Q : α → Prop) (E : Str → Prop) : Prop := match m with
  | .ok a => Q a
  | .exc c => E c
  | .bad => False
section
variable {α β : Type} {m : Res α} {f : α → Res β} {Q Q' : α → Prop} {R : β → Prop} {E E' : Str → Prop}
theorem mwp_bi : mwp (m.bi f) R E ↔ mwp m (fun a => mwp (f a) R E) E := by
  cases m <;> exact Iff.rfl
theorem mwp.bi (h : mwp (m.bi f) R E) : mwp m (fun a => mwp (f a) R E) E := mwp_bi.mp h
theorem mwp.imp (h : mwp m Q E) (q : ∀ a, Q a → Q' a) : mwp m Q' E := by
  cases m with
  | ok a => exact q a h
  | exc c => exact h
  | bad => exact h
theorem mwp.imp2 (h : mwp m Q E) (q : ∀ a, Q a → Q' a) (e : ∀ c, E c → E' c) : mwp m Q' E' := by
  cases m with
  | ok a => exact q a h
  | exc c => exact e c h
  | bad => exact h
theorem mwp.gd {a : α} {c : Prop} [Decidable c] (h : mwp (gd c a) Q E) : c ∧ Q a := by
  unfold Wk.gd at h
  by_cases hc : c
  · rw [if_pos hc] at h; exact ⟨hc, h⟩
  · rw [if_neg hc] at h; exact h.elim
theorem mwp.nx (h : mwp m.nx Q E) : mwp m Q (fun _ => False) := by
  cases m with
  | ok a => exact h
  | exc c => exact h
  | bad => exact h
@[simp] theorem ok_bi {a : α} : (Res.ok a).bi f = f a := rfl
@[simp] theorem exc_bi {c : Str} : (Res.exc c : Res α).bi f = .exc c := rfl
@[simp] theorem bad_bi : (Res.bad : Res α).bi f = .bad := rfl
@[simp] theorem nx_ok {a : α} : (Res.ok a).nx = .ok a := rfl
theorem gd_pos {c : Prop} [Decidable c] {a : α} (h : c) : gd c a = .ok a := by
  unfold gd
  exact if_pos h
theorem bi_bi {γ : Type} {g : β → Res γ} : (m.bi f).bi g = m.bi fun a => (f a).bi g := by cases m <;> rfl
end

/-! ### weakest readings -/
@[irreducible] def wE (X : Cx) (e : Expr) : TE := fun σ H Q => ∀ (pins : List (Addr × Obj)) (s : Shared), Inv X pins σ H s → wpAny (model X.prog X.w) X.A (eval e X.env) (EP X pins σ Q) X.xe s
@[irreducible] def wT (X : Cx) (e : Expr) : TT := fun σ H Q => ∀ (pins : List (Addr × Obj)) (s : Shared), Inv X pins σ H s → wpAny (model X.prog X.w) X.A (isTrue e X.env (eval e X.env)) (TP X pins σ Q) X.xe s
@[irreducible] def wW (X : Cx) (e : Expr) : TT := fun σ H Q => ∀ (whole : Sem Value) (pins : List (Addr × Obj)) (s : Shared), Inv X pins σ H s → wpAny (model X.prog X.w) X.A (isTrue e X.env whole) (TP X pins σ Q) X.xe s
@[irreducible] def wA (X : Cx) (es : List Expr) : TA := fun σ H Q => ∀ (pos : Pos) (pins : List (Addr × Obj)) (s : Shared), Inv X pins σ H s → wpAny (model X.prog X.w) X.A (spliced (backTo pos (starEach es X.env))) (AP X pins σ Q) X.xe s
@[irreducible] def wS (X : Cx) (st : Stmt) : TS := fun D σ H => ∀ (pins : List (Addr × Obj)) (s : Shared), Inv X pins σ H s → wpAny (model X.prog X.w) X.A (exec st X.env) (SP X pins D) X.xe s
@[irreducible] def wB (X : Cx) (st : List Stmt) : TS := fun D σ H => ∀ (pins : List (Addr × Obj)) (s : Shared), Inv X pins σ H s → wpAny (model X.prog X.w) X.A (execs st X.env) (SP X pins D) X.xe s
@[irreducible] def wG (X : Cx) (tg : Expr) : TG := fun v σ H Q => ∀ (pins : List (Addr × Obj)) (s : Shared) (u : Value), Inv X pins σ H s → RelV v u → wpAny (model X.prog X.w) X.A (assign tg X.env u) (fun _ s' => ∃ σ' H', Inv X pins σ' H' s' ∧ Q σ' H') X.xe s
@[irreducible] def wI (X : Cx) (tg it : Expr) : TI := fun σ H R => ∀ (pins : List (Addr × Obj)) (s : Shared), Inv X pins σ H s → wpAny (model X.prog X.w) X.A (eval it X.env) (fun v s1 => wpAny (model X.prog X.w) X.A (pyIter v) (PIE X pins σ tg R) X.xe s1) X.xe s
def wO (X : Cx) (e : Option Expr) : TO := fun σ H Q => ∃ t : TO, PO X e t ∧ t σ H Q
section
variable {X : Cx} {e : Expr} {es : List Expr} {st : Stmt} {sts : List Stmt} {tg it : Expr}
theorem pe_w : PE X e (wE X e) := ⟨fun pins s _ _ _ I h => by
  unfold wE at h
  exact h pins s I⟩
theorem pt_w : PT X e (wT X e) := ⟨fun pins s _ _ _ I h => by
  unfold wT at h
  exact h pins s I⟩
theorem pw_w : PW X e (wW X e) := ⟨fun wh pins s _ _ _ I h => by
  unfold wW at h
  exact h wh pins s I⟩
theorem pa_w : PA X es (wA X es) := ⟨fun pos pins s _ _ _ I h => by
  unfold wA at h
  exact h pos pins s I⟩
theorem ps_w : PS X st (wS X st) := ⟨fun pins s _ _ _ I h => by
  unfold wS at h
  exact h pins s I⟩
theorem pb_w : PSs X sts (wB X sts) := ⟨fun pins s _ _ _ I h => by
  unfold wB at h
  exact h pins s I⟩
theorem pg_w : PG X tg (wG X tg) := ⟨fun pins s _ _ _ u _ I r h => by
  unfold wG at h
  exact h pins s u I r⟩
theorem pi_w : PI X tg it (wI X tg it) := ⟨fun pins s _ _ _ I h => by
  unfold wI at h
  exact h pins s I⟩
variable {σ : Sg} {H : Hp}
theorem ofE {t : TE} {Q : VK} (h : PE X e t) (q : t σ H Q) : wE X e σ H Q := by
  unfold wE
  exact fun pins s I => h.run pins s σ H Q I q
theorem ofT {t : TT} {Q : Bool → Hp → Prop} (h : PT X e t) (q : t σ H Q) : wT X e σ H Q := by
  unfold wT
  exact fun pins s I => h.run pins s σ H Q I q
theorem ofW {t : TT} {Q : Bool → Hp → Prop} (h : PW X e t) (q : t σ H Q) : wW X e σ H Q := by
  unfold wW
  exact fun wh pins s I => h.run wh pins s σ H Q I q
theorem ofA {t : TA} {Q : List V → Hp → Prop} (h : PA X es t) (q : t σ H Q) : wA X es σ H Q := by
  unfold wA
  exact fun pos pins s I => h.run pos pins s σ H Q I q
theorem ofS {t : TS} {D : Ends} (h : PS X st t) (q : t D σ H) : wS X st D σ H := by
  unfold wS
  exact fun pins s I => h.run pins s σ H D I q
theorem ofB {t : TS} {D : Ends} (h : PSs X sts t) (q : t D σ H) : wB X sts D σ H := by
  unfold wB
  exact fun pins s I => h.run pins s σ H D I q
theorem ofG {t : TG} {v : V} {Q : Sg → Hp → Prop} (h : PG X tg t) (q : t v σ H Q) : wG X tg v σ H Q := by
  unfold wG
  exact fun pins s u I r => h.run pins s σ H v u Q I r q
theorem ofI {t : TI} {R : It → Hp → Prop} (h : PI X tg it t) (q : t σ H R) : wI X tg it σ H R := by
  unfold wI
  exact fun pins s I => h.run pins s σ H R I q
end

/-! ### typed data -/
/-- how a value shows data of a type in a part of the heap that stays -/
structure Enc (K : Frag) (α : Type) where
  rep : Hp → V → α → Prop
  mono : ∀ {F F' : Hp} {v : V} {a : α}, Same F F' → rep F v a → rep F' v a
/-- the values in a row -/
structure VsE (K : Frag) (γ : Type) where
  rep : Hp → List V → γ → Prop
  mono : ∀ {F F' : Hp} {vs : List V} {a : γ}, Same F F' → rep F vs a → rep F' vs a
section
variable {K : Frag} {α β γ : Type}
def eI : Enc K Int := ⟨fun _ v i => v = .int i, fun _ h => h⟩
def eB : Enc K Bool := ⟨fun _ v b => v = .bl b, fun _ h => h⟩
def eS : Enc K Str := ⟨fun _ v x => v = .str x, fun _ h => h⟩
def eU : Enc K Unit := ⟨fun _ v _ => v = .non, fun _ h => h⟩
abbrev Reps (e : Enc K α) (F : Hp) : List V → List α → Prop := Paired fun v a => e.rep F v a
theorem Paired.imp {α β : Type} {F G : α → β → Prop} (f : ∀ a b, F a b → G a b) : ∀ {l₁ : List α} {l₂ : List β}, Paired F l₁ l₂ → Paired G l₁ l₂
  | _, _, .nil => .nil
  | _, _, .cons r t => .cons (f _ _ r) (Paired.imp f t)
theorem Reps.mono {e : Enc K α} {F F' : Hp} {vs : List V} {xs : List α} (s : Same F F') (h : Reps e F vs xs) : Reps e F' vs xs := Paired.imp (fun _ _ r => e.mono s r) h
theorem Reps.int {F : Hp} : ∀ {vs : List V} {xs : List Int}, Reps (eI : Enc K Int) F vs xs → vs = xs.map V.int
  | _, _, .nil => rfl
  | _, _, .cons r t => by rw [List.map_cons, ← Reps.int t, show _ = _ from r]
theorem Reps.ofInt {F : Hp} : ∀ (xs : List Int), Reps (eI : Enc K Int) F (xs.map V.int) xs
  | [] => .nil
  | _ :: xs => .cons rfl (Reps.ofInt xs)
theorem Reps.get {e : Enc K α} {F : Hp} : ∀ {vs : List V} {xs : List α} {i : Nat} {x : α}, Reps e F vs xs → xs[i]? = some x → ∃ v, vs[i]? = some v ∧ e.rep F v x
  | _, _, _, _, .nil, h => by simp at h
  | _, _, 0, _, .cons r _, h => by
    simp at h; subst h; exact ⟨_, rfl, r⟩
  | _, _, i + 1, _, .cons _ t, h => by
    obtain ⟨v, h1, h2⟩ := Reps.get (i := i) t (by simpa using h)
    exact ⟨v, by simpa using h1, h2⟩
theorem Reps.getV {e : Enc K α} {F : Hp} : ∀ {vs : List V} {xs : List α} {i : Nat} {v : V}, Reps e F vs xs → vs[i]? = some v → ∃ x, xs[i]? = some x ∧ e.rep F v x
  | _, _, _, _, .nil, h => by simp at h
  | _, _, 0, _, .cons r _, h => by
    simp at h; subst h; exact ⟨_, rfl, r⟩
  | _, _, i + 1, _, .cons _ t, h => by
    obtain ⟨v, h1, h2⟩ := Reps.getV (i := i) t (by simpa using h)
    exact ⟨v, by simpa using h1, h2⟩
theorem Reps.snoc {e : Enc K α} {F : Hp} {vs : List V} {xs : List α} {v : V} {x : α} (h : Reps e F vs xs) (r : e.rep F v x) : Reps e F (vs ++ [v]) (xs ++ [x]) := Paired.snoc h r
theorem Reps.append {e : Enc K α} {F : Hp} : ∀ {vs ws : List V} {xs ys : List α}, Reps e F vs xs → Reps e F ws ys → Reps e F (vs ++ ws) (xs ++ ys)
  | _, _, _, _, .nil, h => h
  | _, _, _, _, .cons r t, h => .cons r (Reps.append t h)
theorem Reps.take {e : Enc K α} {F : Hp} : ∀ {vs : List V} {xs : List α} (n : Nat), Reps e F vs xs → Reps e F (vs.take n) (xs.take n)
  | _, _, 0, _ => .nil
  | _, _, _ + 1, .nil => .nil
  | _, _, n + 1, .cons r t => .cons r (Reps.take n t)
theorem Reps.drop {e : Enc K α} {F : Hp} : ∀ {vs : List V} {xs : List α} (n : Nat), Reps e F vs xs → Reps e F (vs.drop n) (xs.drop n)
  | _, _, 0, h => h
  | _, _, _ + 1, .nil => .nil
  | _, _, n + 1, .cons _ t => Reps.drop n t
theorem Reps.set {e : Enc K α} {F : Hp} {v : V} {x : α} (r : e.rep F v x) : ∀ {vs : List V} {xs : List α} (n : Nat), Reps e F vs xs → Reps e F (vs.set n v) (xs.set n x)
  | _, _, _, .nil => .nil
  | _, _, 0, .cons _ t => .cons r t
  | _, _, n + 1, .cons q t => .cons q (Reps.set r n t)
theorem Reps.reverse {e : Enc K α} {F : Hp} : ∀ {vs : List V} {xs : List α}, Reps e F vs xs → Reps e F vs.reverse xs.reverse
  | _, _, .nil => .nil
  | _, _, .cons r t => by
    rw [List.reverse_cons, List.reverse_cons]
    exact Reps.snoc (Reps.reverse t) r
theorem Reps.length {e : Enc K α} {F : Hp} {vs : List V} {xs : List α} (h : Reps e F vs xs) : vs.length = xs.length := Paired.length h
theorem sqL_mono {F F' : Hp} {a : Addr} {xs : List V} (s : Same F F') (h : SqL K F a xs) : SqL K F' a xs := s.seq h
theorem sqT_mono {F F' : Hp} {a : Addr} {xs : List V} (s : Same F F') (h : SqT K F a xs) : SqT K F' a xs := by
  rcases h with (h | ⟨o, h⟩) | h
  · exact .inl (.inl (s _ _ h))
  · exact .inl (.inr ⟨o, s _ _ h⟩)
  · exact .inr h
def eL (e : Enc K α) : Enc K (List α) := ⟨fun F v xs => ∃ p vs, v = .ref p ∧ F p = some (.lst vs) ∧ vs.length ≤ sizeLine ∧ Reps e F vs xs, fun s ⟨p, vs, h1, h2, hz, h3⟩ => ⟨p, vs, h1, s _ _ h2, hz, h3.mono s⟩⟩
def eO (e : Enc K α) : Enc K (Option α) := ⟨fun F v o => match o with
  | some a => e.rep F v a
  | none => v = .non, fun {F F' v a} s h => by
    cases a with
    | none => exact h
    | some a => exact e.mono s h⟩
def vs1 (e : Enc K α) : VsE K α := ⟨fun F vs a => ∃ v, vs = [v] ∧ e.rep F v a, fun s ⟨v, h1, h2⟩ => ⟨v, h1, e.mono s h2⟩⟩
def vsC (e : Enc K α) (r : VsE K γ) : VsE K (α × γ) := ⟨fun F vs g => ∃ v ws, vs = v :: ws ∧ e.rep F v g.1 ∧ r.rep F ws g.2, fun s ⟨v, ws, h1, h2, h3⟩ => ⟨v, ws, h1, e.mono s h2, r.mono s h3⟩⟩
def eT (r : VsE K γ) : Enc K γ := ⟨fun F v g => ∃ p vs, v = .ref p ∧ F p = some (.tup vs) ∧ r.rep F vs g, fun s ⟨p, vs, h1, h2, h3⟩ => ⟨p, vs, h1, s _ _ h2, r.mono s h3⟩⟩
/-- the n-th value of a row -/
def VAt (r : VsE K γ) (n : Nat) (e : Enc K α) (f : γ → α) : Prop := ∀ F vs g, r.rep F vs g → ∃ v, vs[n]? = some v ∧ e.rep F v (f g)
theorem vat0 {e : Enc K α} {r : VsE K γ} : VAt (vsC e r) 0 e (fun g => g.1) := fun F vs g ⟨v, ws, h1, h2, _⟩ => ⟨v, by rw [h1]; rfl, h2⟩
theorem vat1 {e : Enc K α} : VAt (vs1 e) 0 e (fun g => g) := fun F vs g ⟨v, h1, h2⟩ => ⟨v, by rw [h1]; rfl, h2⟩
theorem vatS {e : Enc K α} {e' : Enc K β} {r : VsE K γ} {n : Nat} {f : γ → α} (h : VAt r n e f) : VAt (vsC e' r) (n + 1) e (fun g => f g.2) := fun F vs g ⟨v, ws, h1, h2, h3⟩ => by
  obtain ⟨u, h4, h5⟩ := h F ws g.2 h3
  exact ⟨u, by rw [h1]; exact h4, h5⟩
end

/-! ### the state of a frame -/
inductive Sl (K : Frag) : Type 1 where
  | any
  | val {α : Type} (e : Enc K α) (a : α)
  | bor {α : Type} (e : Enc K α) (xs : List α)
  | own (k : Nat)
/-- one object of ours, by what stands in it -/
structure OEnc (K : Frag) (σ : Type) where
  rep : Hp → HO → σ → Prop
  mono : ∀ {F F' : Hp} {o : HO} {s : σ}, Same F F' → rep F o s → rep F' o s
/-- a thing of ours that holds others of ours -/
structure PkE (K : Frag) (σ : Type) where
  rep : Hp → Hp → List Addr → Addr → σ → Prop
  go : ∀ {F H F' H' : Hp} {l : List Addr} {p : Addr} {s : σ}, Same F F' → (∀ q ∈ l, ∀ o, H q = some o → H' q = some o) → (∀ o, H p = some o → H' p = some o) → rep F H l p s → rep F' H' l p s
  st : ∀ {F H : Hp} {l : List Addr} {p : Addr} {s : σ}, rep F H l p s → H p ≠ none
theorem ll_go {K : Frag} {α : Type} {e : Enc K α} {F H F' H' : Hp} (f : Same F F') : ∀ {l : List Addr} {xss : List (List α)}, (∀ q ∈ l, ∀ o, H q = some o → H' q = some o) → Paired (fun q xs => ∃ vs, H q = some (.lst vs) ∧ vs.length ≤ sizeLine ∧ Reps e F vs xs) l xss → Paired (fun q xs => ∃ vs, H' q = some (.lst vs) ∧ vs.length ≤ sizeLine ∧ Reps e F' vs xs) l xss
  | _, _, _, .nil => .nil
  | _, _, hl, .cons ⟨vs, k1, k2, k3⟩ r => .cons ⟨vs, hl _ (List.mem_cons_self ..) _ k1, k2, k3.mono f⟩ (ll_go f (fun q hq => hl q (List.mem_cons_of_mem _ hq)) r)
/-- a list of lists of ours: l tells where these stand -/
def pkLL {K : Frag} {α : Type} (e : Enc K α) : PkE K (List (List α)) := ⟨fun F H l p xss => H p = some (.lst (l.map V.ref)) ∧ l.length ≤ sizeLine ∧ Paired (fun q xs => ∃ vs, H q = some (.lst vs) ∧ vs.length ≤ sizeLine ∧ Reps e F vs xs) l xss, fun f hl hp ⟨h1, h2, h3⟩ => ⟨hp _ h1, h2, ll_go f hl h3⟩, fun h z => by rw [h.1] at z; cases z⟩
inductive Ob (K : Frag) : Type 1 where
  | dead
  | lst {α : Type} (t : Option Addr) (e : Enc K α) (xs : List α)
  | gen {σ : Type} (t : Option Addr) (e : OEnc K σ) (s : σ)
  | pk {σ : Type} (t : Option Addr) (e : PkE K σ) (s : σ)
@[reducible] def Ob.lls {K : Frag} {α : Type} (t : Option Addr) (e : Enc K α) (xss : List (List α)) : Ob K := .pk t (pkLL e) xss
structure Spec (K : Frag) : Type 1 where
  sl : List (Sl K)
  ob : List (Ob K)
/-- what is fixed in a def's run: the data handed in, the heap that stays, what is wanted of an error -/
structure Fz where
  F0 : Hp
  G : Hp
  Er : Str → Prop
section
variable {K : Frag}
def slOk (G F : Hp) (ad : List Addr) : Sl K → Option V → Prop
  | .any, _ => True
  | .val e a, o => ∃ v, o = some v ∧ e.rep F v a
  | .bor e xs, o => ∃ p vs, o = some (.ref p) ∧ SqL K G p vs ∧ vs.length ≤ sizeLine ∧ Reps e F vs xs
  | .own k, o => ∃ p, ad[k]? = some p ∧ o = some (.ref p)
def obOk (G F H : Hp) : Ob K → Addr → Prop
  | .dead, _ => True
  | .lst t e xs, p => ∃ vs, H p = some (.lst vs) ∧ vs.length ≤ sizeLine ∧ Reps e F vs xs ∧ F p = none ∧ G p = none ∧ ∀ q, t = some q → p = q
  | .gen t e s, p => ∃ o, H p = some o ∧ e.rep F o s ∧ F p = none ∧ G p = none ∧ ∀ q, t = some q → p = q
  | .pk _ _ _, _ => True
def pkOk (G F H : Hp) {σ : Type} (t : Option Addr) (e : PkE K σ) (l : List Addr) (s : σ) (p : Addr) : Prop :=
  e.rep F H l p s ∧ F p = none ∧ G p = none ∧ ∀ q, t = some q → p = q
structure LfW (G F H : Hp) (ad : List Addr) (ob : List (Ob K)) (L : Nat → List Addr) : Prop where
  di : ∀ k q, q ∈ L k → q ∉ ad ∧ F q = none ∧ G q = none ∧ H q ≠ none
  un : ∀ k q, q ∈ L k → ∀ k', q ∈ L k' → k' = k
  nd : ∀ k, (L k).Nodup
  ok : ∀ (k : Nat) (α : Type) (t : Option Addr) (e : PkE K α) (xss : α), ob[k]? = some (.pk t e xss) → ∃ p, ad[k]? = some p ∧ pkOk G F H t e (L k) xss p
def Lf (G F H : Hp) (ad : List Addr) (ob : List (Ob K)) : Prop := ∃ L, LfW G F H ad ob L
theorem pkOk.go {G F H F' H' : Hp} {σ : Type} {t : Option Addr} {e : PkE K σ} {l : List Addr} {s : σ} {p : Addr} (f : Same F F') (hl : ∀ q ∈ l, ∀ o, H q = some o → H' q = some o) (hp : ∀ o, H p = some o → H' p = some o) (hF : F' p = none) (h : pkOk G F H t e l s p) : pkOk G F' H' t e l s p :=
  ⟨e.go f hl hp h.1, hF, h.2.2.1, h.2.2.2⟩
/-- from (F, H) to (F', H'): only new things -/
structure Nx (F H F' H' : Hp) : Prop where
  ff : Same F F'
  hh : Same H H'
  fh : Same F' H'
  nw : ∀ a, F' a ≠ none → F a ≠ none ∨ H a = none
theorem Nx.trans {F H F1 H1 F2 H2 : Hp} (a : Nx F H F1 H1) (b : Nx F1 H1 F2 H2) : Nx F H F2 H2 := ⟨a.ff.trans b.ff, a.hh.trans b.hh, b.fh, fun x h => by
  rcases b.nw x h with h | h
  · exact a.nw x h
  · exact .inr (a.hh.free h)⟩
theorem Nx.non {F H F' H' : Hp} (n : Nx F H F' H') {p : Addr} (h1 : F p = none) (h2 : H p ≠ none) : F' p = none := by
  cases q : F' p with
  | none => rfl
  | some o =>
    rcases n.nw p (by rw [q]; exact fun z => nomatch z) with z | z
    · exact absurd h1 z
    · exact absurd z h2
structure SOk (Z : Fz) (F : Hp) (ad : List Addr) (sp : Spec K) (σ : Sg) (H : Hp) : Prop where
  f0 : Same Z.F0 F
  fh : Same F H
  gh : Same Z.G H
  fg : ∀ a, F a ≠ none → Z.F0 a ≠ none ∨ Z.G a = none
  nd : ad.Nodup
  st : ∀ p ∈ ad, H p ≠ none
  len : sp.sl.length = σ.length
  sl : ∀ (i : Nat) (s : Sl K), sp.sl[i]? = some s → ∃ o : Option V, (σ : List (Option V))[i]? = some o ∧ slOk Z.G F ad s o
  olen : sp.ob.length = ad.length
  ob : ∀ (k : Nat) (o : Ob K), sp.ob[k]? = some o → ∃ p : Addr, ad[k]? = some p ∧ obOk Z.G F H o p
  lf : Lf Z.G F H ad sp.ob
theorem slOk.mono {G F F' : Hp} {ad : List Addr} {s : Sl K} {o : Option V} (f : Same F F') (h : slOk G F ad s o) : slOk G F' ad s o := by
  cases s with
  | any => trivial
  | val e a => obtain ⟨v, h1, h2⟩ := h; exact ⟨v, h1, e.mono f h2⟩
  | bor e xs => obtain ⟨p, vs, h1, h2, hz, h3⟩ := h; exact ⟨p, vs, h1, h2, hz, h3.mono f⟩
  | own k => exact h
theorem obOk.nx {G F H F' H' : Hp} {o : Ob K} {p : Addr} (n : Nx F H F' H') (h : obOk G F H o p) : obOk G F' H' o p := by
  cases o with
  | dead => trivial
  | pk t e xss => trivial
  | gen t e s =>
    obtain ⟨o, h1, h2, h3, h4⟩ := h
    exact ⟨o, n.hh _ _ h1, e.mono n.ff h2, n.non h3 (by rw [h1]; exact fun z => nomatch z), h4⟩
  | lst t e xs =>
    obtain ⟨vs, h1, hz, h2, h3, h4⟩ := h
    exact ⟨vs, n.hh _ _ h1, hz, h2.mono n.ff, n.non h3 (by rw [h1]; exact fun z => nomatch z), h4⟩
theorem LfW.nx {G F H F' H' : Hp} {ad : List Addr} {ob : List (Ob K)} {L : Nat → List Addr} (n : Nx F H F' H') (h : LfW G F H ad ob L) : LfW G F' H' ad ob L := by
  refine ⟨fun k q hq => ?_, h.un, h.nd, fun k α t e xss ho => ?_⟩
  · obtain ⟨a, b, c, d⟩ := h.di k q hq
    exact ⟨a, n.non b d, c, fun z => d (n.hh.free z)⟩
  · obtain ⟨p, hp, q⟩ := h.ok k α t e xss ho
    exact ⟨p, hp, q.go n.ff (fun q _ => n.hh q) (n.hh p) (n.non q.2.1 (e.st q.1))⟩
theorem Lf.nil {G F H : Hp} {ad : List Addr} {ob : List (Ob K)} (ho : ∀ (k : Nat) (α : Type) (t : Option Addr) (e : PkE K α) (xss : α), ob[k]? ≠ some (.pk t e xss)) : Lf G F H ad ob :=
  ⟨fun _ => [], fun _ _ h => (nomatch h), fun _ _ h => (nomatch h), fun _ => List.nodup_nil, fun k α t e xss h => absurd h (ho k α t e xss)⟩
theorem Lf.nx {G F H F' H' : Hp} {ad : List Addr} {ob : List (Ob K)} (n : Nx F H F' H') (h : Lf G F H ad ob) : Lf G F' H' ad ob := let ⟨L, h⟩ := h
  ⟨L, h.nx n⟩
theorem Lf.push {G F H F' H' : Hp} {ad : List Addr} {ob : List (Ob K)} {q : Addr} {o : Ob K} (n : Nx F H F' H') (hq : H q = none) (hl : ob.length = ad.length) (ho : ∀ (α : Type) (t : Option Addr) (e : PkE K α) (xss : α), o ≠ .pk t e xss) (h : Lf G F H ad ob) : Lf G F' H' (ad ++ [q]) (ob ++ [o]) := by
  obtain ⟨L, h⟩ := h
  have h' := h.nx n
  refine ⟨L, fun k x hx => ?_, h.un, h.nd, fun k α t e xss hk => ?_⟩
  · obtain ⟨a, b, c, d⟩ := h'.di k x hx
    refine ⟨fun z => ?_, b, c, d⟩
    rcases List.mem_append.mp z with z | z
    · exact a z
    · rw [List.mem_singleton] at z
      subst z
      exact (h.di k x hx).2.2.2 hq
  · by_cases hlt : k < ob.length
    · rw [List.getElem?_append_left hlt] at hk
      obtain ⟨p, hp, r⟩ := h'.ok k α t e xss hk
      exact ⟨p, by rw [List.getElem?_append_left (by omega)]; exact hp, r⟩
    · have hl2 := (List.getElem?_eq_some_iff.mp hk).1
      rw [List.length_append, List.length_singleton] at hl2
      have e2 : k = ob.length := by omega
      subst e2
      rw [List.getElem?_append_right (Nat.le_refl _), Nat.sub_self] at hk
      exact absurd (Option.some.inj hk) (ho α t e xss)
/-- a list of ours (no list of lists) is changed, or forgotten -/
theorem Lf.set {G F H F' H' : Hp} {ad : List Addr} {ob : List (Ob K)} {q : Addr} {o : Ob K} {i : Nat} (hi : ad[i]? = some q) (nd : ad.Nodup) (ff : Same F F') (fn : ∀ a, a ≠ q → F a = none → F' a = none) (hh : ∀ a, a ≠ q → H' a = H a) (ho : ∀ (α : Type) (t : Option Addr) (e : PkE K α) (xss : α), o ≠ .pk t e xss) (h : Lf G F H ad ob) : Lf G F' H' ad (ob.set i o) := by
  obtain ⟨L, h⟩ := h
  have nq : ∀ k x, x ∈ L k → x ≠ q := fun k x hx e => (h.di k x hx).1 (by rw [e]; exact List.mem_of_getElem? hi)
  refine ⟨L, fun k x hx => ?_, h.un, h.nd, fun k α t e xss hk => ?_⟩
  · obtain ⟨a, b, c, d⟩ := h.di k x hx
    exact ⟨a, fn x (nq k x hx) b, c, by rw [hh x (nq k x hx)]; exact d⟩
  · by_cases ek : k = i
    · subst ek
      by_cases hl : k < ob.length
      · rw [List.getElem?_set_self hl] at hk
        exact absurd (Option.some.inj hk) (ho α t e xss)
      · rw [List.getElem?_eq_none (by rw [List.length_set]; omega)] at hk
        cases hk
    · rw [List.getElem?_set_ne (Ne.symm ek)] at hk
      obtain ⟨p, hp, r⟩ := h.ok k α t e xss hk
      have np : p ≠ q := fun z => by
        subst z
        have l1 := (List.getElem?_eq_some_iff.mp hp).1
        have l2 := (List.getElem?_eq_some_iff.mp hi).1
        rw [List.getElem?_eq_getElem l1] at hp
        rw [List.getElem?_eq_getElem l2] at hi
        exact ek ((List.getElem_inj nd).mp ((Option.some.inj hp).trans (Option.some.inj hi).symm))
      exact ⟨p, hp, r.go ff (fun x hx o z => by rw [hh x (nq k x hx)]; exact z) (fun o z => by rw [hh p np]; exact z) (fn p np r.2.1)⟩
variable {Z : Fz} {F H F' H' : Hp} {ad : List Addr} {sp : Spec K} {σ : Sg}
theorem SOk.refl (S : SOk Z F ad sp σ H) : Nx F H F H := ⟨Same.refl _, Same.refl _, S.fh, fun _ h => .inl h⟩
theorem SOk.nx (S : SOk Z F ad sp σ H) (n : Nx F H F' H') : SOk Z F' ad sp σ H' where
  f0 := S.f0.trans n.ff
  fh := n.fh
  gh := S.gh.trans n.hh
  fg := fun a h => by
    rcases n.nw a h with h | h
    · exact S.fg a h
    · exact .inr (S.gh.free h)
  nd := S.nd
  st := fun p hp z => S.st p hp (n.hh.free z)
  len := S.len
  sl := fun i s h => by
    obtain ⟨o, h1, h2⟩ := S.sl i s h
    exact ⟨o, h1, h2.mono n.ff⟩
  olen := S.olen
  ob := fun k o h => by
    obtain ⟨p, h1, h2⟩ := S.ob k o h
    exact ⟨p, h1, h2.nx n⟩
  lf := S.lf.nx n
/-- some assertion of the frame -/
def ASt (Z : Fz) (sp : Spec K) (σ : Sg) (H : Hp) : Prop := ∃ F ad, SOk Z F ad sp σ H
end

/-! ### what an expression gives -/
def EJ (X : Cx) (Z : Fz) (sp : Spec X.K) (e : Expr) {α : Type} (m : Res α) (en : Enc X.K α) : Prop :=
  ∀ (F : Hp) (ad : List Addr) (σ : Sg) (H : Hp) (Q : VK), SOk Z F ad sp σ H → mwp m (fun a => ∀ F' H' v, Nx F H F' H' → en.rep F' v a → Q v H') Z.Er → wE X e σ H Q
/-- a list that may be read -/
def LJ (X : Cx) (Z : Fz) (sp : Spec X.K) (e : Expr) {α : Type} (m : Res (List α)) (en : Enc X.K α) : Prop :=
  ∀ (F : Hp) (ad : List Addr) (σ : Sg) (H : Hp) (Q : VK), SOk Z F ad sp σ H → mwp m (fun xs => ∀ F' H' p vs, Nx F H F' H' → SqL X.K H' p vs → vs.length ≤ sizeLine → Reps en F' vs xs → Q (.ref p) H') Z.Er → wE X e σ H Q
/-- a new list -/
def FJ (X : Cx) (Z : Fz) (sp : Spec X.K) (e : Expr) {α : Type} (m : Res (List α)) (en : Enc X.K α) : Prop :=
  ∀ (F : Hp) (ad : List Addr) (σ : Sg) (H : Hp) (Q : VK), SOk Z F ad sp σ H → mwp m (fun xs => ∀ F' H' p vs, Nx F H F' H' → H p = none → F' p = none → H' p = some (.lst vs) → vs.length ≤ sizeLine → Reps en F' vs xs → Q (.ref p) H') Z.Er → wE X e σ H Q
/-- a test -/
def TJ (X : Cx) (Z : Fz) (sp : Spec X.K) (e : Expr) (m : Res Bool) : Prop :=
  ∀ (F : Hp) (ad : List Addr) (σ : Sg) (H : Hp) (Q : Bool → Hp → Prop), SOk Z F ad sp σ H → mwp m (fun b => ∀ F' H', Nx F H F' H' → Q b H') Z.Er → wT X e σ H Q
end Wk

set_option Elab.async false
set_option linter.all false
set_option maxRecDepth 100000
set_option maxHeartbeats 4000000
namespace Wk
open PySem PySem.Spec PyProof.Rows L2

/-! ### more judgements -/
def WJ (X : Cx) (Z : Fz) (sp : Spec X.K) (e : Expr) (m : Res Bool) : Prop :=
  ∀ (F : Hp) (ad : List Addr) (σ : Sg) (H : Hp) (Q : Bool → Hp → Prop), SOk Z F ad sp σ H → mwp m (fun b => ∀ F' H', Nx F H F' H' → Q b H') Z.Er → wW X e σ H Q
/-- items of one type in a row -/
def IJ (X : Cx) (Z : Fz) (sp : Spec X.K) (es : List Expr) {α : Type} (m : Res (List α)) (en : Enc X.K α) : Prop :=
  ∀ (F : Hp) (ad : List Addr) (σ : Sg) (H : Hp) (Q : List V → Hp → Prop), SOk Z F ad sp σ H → mwp m (fun xs => ∀ F' H' vs, Nx F H F' H' → Reps en F' vs xs → vs.length = es.length → Q vs H') Z.Er → wA X es σ H Q
/-- values in a row, typed one by one -/
def VJ (X : Cx) (Z : Fz) (sp : Spec X.K) (es : List Expr) {γ : Type} (m : Res γ) (r : VsE X.K γ) : Prop :=
  ∀ (F : Hp) (ad : List Addr) (σ : Sg) (H : Hp) (Q : List V → Hp → Prop), SOk Z F ad sp σ H → mwp m (fun g => ∀ F' H' vs, Nx F H F' H' → r.rep F' vs g → vs.length = es.length → Q vs H') Z.Er → wA X es σ H Q
/-- a slice's part -/
def OJ (X : Cx) (Z : Fz) (sp : Spec X.K) (e : Option Expr) (m : Res (Option Int)) : Prop :=
  ∃ t : TO, PO X e t ∧ ∀ (F : Hp) (ad : List Addr) (σ : Sg) (H : Hp) (Q : Option Int → Hp → Prop), SOk Z F ad sp σ H → mwp m (fun o => ∀ F' H', Nx F H F' H' → Q o H') Z.Er → t σ H Q

section
variable {X : Cx} {Z : Fz} {sp : Spec X.K} {a b c e : Expr} {es : List Expr} {pos p j' : Pos} {α β γ : Type}
/-! ### names, constants -/
theorem ej_var {i : Nat} {x : Str} {en : Enc X.K α} {v : α} (hs : sp.sl[i]? = some (.val en v) := by rfl) (hN : X.N[i]? = some x := by rfl)
    (hv : Vis X.env.scope x := by first | exact Or.inl rfl | exact Or.inr (Or.inl rfl) | exact Or.inr (Or.inr rfl)) (hd : (x == ("__debug__" : Str)) = false := by decide) (hcd : (x == ("__classdict__" : Str)) = false := by decide) :
    EJ X Z sp (.Name x pos) (.ok v) en := fun F ad σ H Q S h => by
  refine ofE (pe_var (i := i) hN hv hd hcd) ?_
  obtain ⟨o, h1, u, h2, h3⟩ := S.sl i _ hs
  exact ⟨u, by rw [h1, h2], h F H u S.refl h3⟩
theorem lj_bor {i : Nat} {x : Str} {en : Enc X.K α} {xs : List α} (hs : sp.sl[i]? = some (.bor en xs) := by rfl) (hN : X.N[i]? = some x := by rfl)
    (hv : Vis X.env.scope x := by first | exact Or.inl rfl | exact Or.inr (Or.inl rfl) | exact Or.inr (Or.inr rfl)) (hd : (x == ("__debug__" : Str)) = false := by decide) (hcd : (x == ("__classdict__" : Str)) = false := by decide) :
    LJ X Z sp (.Name x pos) (.ok xs) en := fun F ad σ H Q S h => by
  refine ofE (pe_var (i := i) hN hv hd hcd) ?_
  obtain ⟨o, h1, p, vs, h2, h3, hz, h4⟩ := S.sl i _ hs
  exact ⟨.ref p, by rw [h1, h2], h F H p vs S.refl (sqL_mono S.gh h3) hz h4⟩
theorem lj_own {i k : Nat} {x : Str} {en : Enc X.K α} {xs : List α} (hs : sp.sl[i]? = some (.own k) := by rfl) {t : Option Addr} (ho : sp.ob[k]? = some (.lst t en xs) := by rfl) (hN : X.N[i]? = some x := by rfl)
    (hv : Vis X.env.scope x := by first | exact Or.inl rfl | exact Or.inr (Or.inl rfl) | exact Or.inr (Or.inr rfl)) (hd : (x == ("__debug__" : Str)) = false := by decide) (hcd : (x == ("__classdict__" : Str)) = false := by decide) :
    LJ X Z sp (.Name x pos) (.ok xs) en := fun F ad σ H Q S h => by
  refine ofE (pe_var (i := i) hN hv hd hcd) ?_
  obtain ⟨o, h1, p, h2, h3⟩ := S.sl i _ hs
  obtain ⟨p', h4, vs, h5, hz, h6, h7, h8⟩ := S.ob k _ ho
  rw [h2] at h4
  have e : p = p' := Option.some.inj h4
  subst e
  exact ⟨.ref p, by rw [h1, h3], h F H p vs S.refl (SqL.of h5) hz h6⟩
theorem ej_int {i : Int} {j : Nat} : EJ X Z sp (.Constant (.int i) j pos) (.ok i) eI := fun F ad σ H Q S h => ofE pe_int (h F H _ S.refl rfl)
theorem ej_bl {i : Bool} {j : Nat} : EJ X Z sp (.Constant (.bool i) j pos) (.ok i) eB := fun F ad σ H Q S h => ofE pe_bl (h F H _ S.refl rfl)
theorem ej_str {i : Str} {j : Nat} : EJ X Z sp (.Constant (.str i) j pos) (.ok i) eS := fun F ad σ H Q S h => ofE pe_str (h F H _ S.refl rfl)
theorem ej_non {en : Enc X.K α} {j : Nat} : EJ X Z sp (.Constant .none j pos) (.ok none) (eO en) := fun F ad σ H Q S h => ofE pe_non (h F H _ S.refl rfl)
theorem ej_unit {j : Nat} : EJ X Z sp (.Constant .none j pos) (.ok ()) eU := fun F ad σ H Q S h => ofE pe_non (h F H _ S.refl rfl)
theorem ej_gint {x : Str} {i : Int} {t : Tok} (hm : X.mg x = some (.int i t)) (hg : Gl X x := by rfl) (hd : (x == ("__debug__" : Str)) = false := by decide) : EJ X Z sp (.Name x pos) (.ok i) eI := fun F ad σ H Q S h =>
  ofE (pe_glob (v := .int i) hg hm ⟨t, rfl⟩ hd) (h F H _ S.refl rfl)
theorem ej_gstr {x z : Str} {t : Tok} (hm : X.mg x = some (.str z t)) (hg : Gl X x := by rfl) (hd : (x == ("__debug__" : Str)) = false := by decide) : EJ X Z sp (.Name x pos) (.ok z) eS := fun F ad σ H Q S h =>
  ofE (pe_glob (v := .str z) hg hm ⟨t, rfl⟩ hd) (h F H _ S.refl rfl)
/-! ### turning -/
theorem lj_ej {en : Enc X.K α} {m : Res (List α)} (h : EJ X Z sp e m (eL en)) : LJ X Z sp e m en := fun F ad σ H Q S hm => by
  refine h F ad σ H Q S (hm.imp fun xs q F' H' v n r => ?_)
  obtain ⟨p, vs, rfl, h2, hz, h3⟩ := r
  exact q F' H' p vs n (SqL.of (n.fh _ _ h2)) hz h3
theorem lj_fj {en : Enc X.K α} {m : Res (List α)} (h : FJ X Z sp e m en) : LJ X Z sp e m en := fun F ad σ H Q S hm =>
  h F ad σ H Q S (hm.imp fun xs q F' H' p vs n h1 h2 h3 hz h4 => q F' H' p vs n (SqL.of h3) hz h4)
theorem same_upd {F : Hp} {p : Addr} {o : HO} (h : F p = none) : Same F (upd F p o) := fun b x e => by
  rw [upd_ne (ne_of_none e h)]
  exact e
/-- a new object is made part of what stays -/
theorem Nx.fix {F H F' H' : Hp} {p : Addr} {o : HO} (n : Nx F H F' H') (h1 : H p = none) (h2 : F' p = none) (h3 : H' p = some o) : Nx F H (upd F' p o) H' := ⟨n.ff.trans (same_upd h2), n.hh, fun b x q => by
  by_cases hb : b = p
  · subst hb; rw [upd_same] at q; rw [h3]; exact q
  · rw [upd_ne hb] at q; exact n.fh b x q, fun a q => by
  by_cases ha : a = p
  · subst ha; exact .inr h1
  · rw [upd_ne ha] at q; exact n.nw a q⟩
theorem Nx.new {F H F' H' : Hp} {p : Addr} {o : HO} (n : Nx F H F' H') (h : H' p = none) : Nx F H F' (upd H' p o) := ⟨n.ff, n.hh.trans (same_upd h), fun b x q => by
  have hb : b ≠ p := fun z => by subst z; rw [n.fh b x q] at h; cases h
  rw [upd_ne hb]; exact n.fh b x q, n.nw⟩
theorem Nx.free {F H F' H' : Hp} {p : Addr} (n : Nx F H F' H') (h : H' p = none) : H p = none ∧ F' p = none := ⟨n.hh.free h, n.fh.free h⟩
theorem ej_fj {en : Enc X.K α} {m : Res (List α)} (h : FJ X Z sp e m en) : EJ X Z sp e m (eL en) := fun F ad σ H Q S hm =>
  h F ad σ H Q S (hm.imp fun xs q F' H' p vs n h1 h2 h3 hz h4 => q _ H' (.ref p) (n.fix h1 h2 h3) ⟨p, vs, rfl, upd_same, hz, h4.mono (same_upd h2)⟩)
theorem ej_some {en : Enc X.K α} {m : Res α} (h : EJ X Z sp e m en) : EJ X Z sp e (m.bi fun a => .ok (some a)) (eO en) := fun F ad σ H Q S hm =>
  h F ad σ H Q S (hm.bi.imp fun _ q => q)
theorem ej_some_p {en : Enc X.K α} {v : α} (h : EJ X Z sp e (.ok v) en) : EJ X Z sp e (.ok (some v)) (eO en) := ej_some h
/-- what is there -/
def unO (o : Option α) : Res α := match o with
  | some a => .ok a
  | none => .bad
theorem ej_un {en : Enc X.K α} {m : Res (Option α)} (h : EJ X Z sp e m (eO en)) : EJ X Z sp e (m.bi unO) en := fun F ad σ H Q S hm =>
  h F ad σ H Q S (hm.bi.imp fun o q F' H' v n r => by
    cases o with
    | none => exact q.elim
    | some a => exact q F' H' v n r)
theorem ej_un_p {en : Enc X.K α} {o : Option α} (h : EJ X Z sp e (.ok o) (eO en)) : EJ X Z sp e (unO o) en := ej_un h

/-! ### arithmetic -/
theorem ej_rI {op : Operator} {C : Int → Int → Prop} [∀ i j, Decidable (C i j)] {f : Int → Int → Int} {ma mb : Res Int} (ho : OpR X (binaryOp op) (rI C fun i j => .int (f i j)))
    (ha : EJ X Z sp a ma eI) (hb : EJ X Z sp b mb eI) : EJ X Z sp (.BinOp a op b pos) (ma.bi fun x => mb.bi fun y => gd (C x y) (f x y)) eI := fun F ad σ H Q S hm => by
  refine ofE (pe_op ho pe_w pe_w) ?_
  refine ha F ad σ H _ S (hm.bi.imp fun x q F1 H1 v n1 r1 => ?_)
  refine hb F1 ad σ H1 _ (S.nx n1) (q.bi.imp fun y q F2 H2 u n2 r2 => ?_)
  obtain ⟨c, q⟩ := q.gd
  exact ⟨x, y, r1, r2, c, q F2 H2 _ (n1.trans n2) rfl⟩
theorem ej_rI0 {op : Operator} {f : Int → Int → Int} {ma mb : Res Int} (ho : OpR X (binaryOp op) (rI0 fun i j => .int (f i j)))
    (ha : EJ X Z sp a ma eI) (hb : EJ X Z sp b mb eI) : EJ X Z sp (.BinOp a op b pos) (ma.bi fun x => mb.bi fun y => .ok (f x y)) eI := fun F ad σ H Q S hm => by
  refine ofE (pe_op ho pe_w pe_w) ?_
  refine ha F ad σ H _ S (hm.bi.imp fun x q F1 H1 v n1 r1 => ?_)
  refine hb F1 ad σ H1 _ (S.nx n1) (q.bi.imp fun y q F2 H2 u n2 r2 => ?_)
  exact ⟨x, y, r1, r2, q F2 H2 _ (n1.trans n2) rfl⟩
theorem ej_add {ma mb : Res Int} (ha : EJ X Z sp a ma eI) (hb : EJ X Z sp b mb eI) : EJ X Z sp (.BinOp a .Add b pos) (ma.bi fun x => mb.bi fun y => .ok (x + y)) eI := ej_rI0 op_add ha hb
theorem ej_sub {ma mb : Res Int} (ha : EJ X Z sp a ma eI) (hb : EJ X Z sp b mb eI) : EJ X Z sp (.BinOp a .Sub b pos) (ma.bi fun x => mb.bi fun y => .ok (x - y)) eI := ej_rI0 op_sub ha hb
theorem ej_add_p {x y : Int} (ha : EJ X Z sp a (.ok x) eI) (hb : EJ X Z sp b (.ok y) eI) : EJ X Z sp (.BinOp a .Add b pos) (.ok (x + y)) eI := ej_add ha hb
theorem ej_sub_p {x y : Int} (ha : EJ X Z sp a (.ok x) eI) (hb : EJ X Z sp b (.ok y) eI) : EJ X Z sp (.BinOp a .Sub b pos) (.ok (x - y)) eI := ej_sub ha hb
/-- a product that the machine lays -/
def mulOk (i j : Int) : Prop := i.natAbs.log2 + j.natAbs.log2 < 100000000
instance (i j : Int) : Decidable (mulOk i j) := inferInstanceAs (Decidable (_ < _))
theorem mulOk.ok {i j : Int} (h : mulOk i j) : IntMulOk i j := by
  have b : ∀ x : Int, Builtin.Int.intBits x ≤ x.natAbs.log2 + 1 := fun x => by
    unfold Builtin.Int.intBits
    split <;> omega
  have h1 := b i
  have h2 := b j
  have h3 : i.natAbs.log2 + j.natAbs.log2 < 100000000 := h
  have e : bitsLine = 134217728 := by decide
  unfold IntMulOk
  intro z
  rw [Bool.and_eq_true] at z
  have z2 := z.2
  unfold Builtin.Int.intTooBig at z2
  have z3 := of_decide_eq_true z2
  rw [e] at z3
  omega
theorem op_mulZ : OpR X (binaryOp .Mult) (rI mulOk fun i j => .int (i * j)) := opI fun _ _ _ _ _ _ _ hc q => mul_int q hc.ok
def mulM (x y : Int) : Res Int := gd (mulOk x y) (x * y)
theorem ej_mul {ma mb : Res Int} (ha : EJ X Z sp a ma eI) (hb : EJ X Z sp b mb eI) : EJ X Z sp (.BinOp a .Mult b pos) (ma.bi fun x => mb.bi fun y => mulM x y) eI := ej_rI op_mulZ ha hb
theorem ej_mul_p {x y : Int} (ha : EJ X Z sp a (.ok x) eI) (hb : EJ X Z sp b (.ok y) eI) : EJ X Z sp (.BinOp a .Mult b pos) (mulM x y) eI := ej_mul ha hb
instance (i j : Int) : Decidable (CDivW i j) := inferInstanceAs (Decidable (_ ∧ _))
def divM (x y : Int) : Res Int := gd (CDivW x y) (x / y)
theorem ej_div {ma mb : Res Int} (ha : EJ X Z sp a ma eI) (hb : EJ X Z sp b mb eI) : EJ X Z sp (.BinOp a .FloorDiv b pos) (ma.bi fun x => mb.bi fun y => divM x y) eI := ej_rI op_fdivW ha hb
theorem ej_div_l {ma : Res Int} {y : Int} (ha : EJ X Z sp a ma eI) (hb : EJ X Z sp b (.ok y) eI) (c : CDivW 0 y := by decide) : EJ X Z sp (.BinOp a .FloorDiv b pos) (ma.bi fun x => .ok (x / y)) eI := fun F ad σ H Q S hm =>
  ej_div ha hb F ad σ H Q S (mwp_bi.mpr (hm.bi.imp fun x q => by
    show mwp (gd (CDivW x y) (x / y)) _ _
    rw [gd_pos (show CDivW x y from c)]
    exact q))
theorem ej_div_lp {x y : Int} (ha : EJ X Z sp a (.ok x) eI) (hb : EJ X Z sp b (.ok y) eI) (c : CDivW 0 y := by decide) : EJ X Z sp (.BinOp a .FloorDiv b pos) (.ok (x / y)) eI := ej_div_l ha hb c
def modM (x y : Int) : Res Int := gd (0 < y) (x % y)
theorem ej_mod {ma mb : Res Int} (ha : EJ X Z sp a ma eI) (hb : EJ X Z sp b mb eI) : EJ X Z sp (.BinOp a .Mod b pos) (ma.bi fun x => mb.bi fun y => modM x y) eI := ej_rI (C := fun _ j => 0 < j) op_mod ha hb
theorem ej_mod_l {ma : Res Int} {y : Int} (ha : EJ X Z sp a ma eI) (hb : EJ X Z sp b (.ok y) eI) (c : 0 < y := by decide) : EJ X Z sp (.BinOp a .Mod b pos) (ma.bi fun x => .ok (x % y)) eI := fun F ad σ H Q S hm =>
  ej_mod ha hb F ad σ H Q S (mwp_bi.mpr (hm.bi.imp fun x q => by
    show mwp (gd (0 < y) (x % y)) _ _
    rw [gd_pos c]
    exact q))
theorem ej_mod_lp {x y : Int} (ha : EJ X Z sp a (.ok x) eI) (hb : EJ X Z sp b (.ok y) eI) (c : 0 < y := by decide) : EJ X Z sp (.BinOp a .Mod b pos) (.ok (x % y)) eI := ej_mod_l ha hb c
/-- a power by a written number -/
def powM (x : Int) (n : Nat) : Res Int := gd (x.natAbs < 2 ^ 64) (x ^ n)
theorem ej_pow {ma : Res Int} (n : Nat) {j : Nat} (ha : EJ X Z sp a ma eI) (hn : n ≤ 1000000 := by decide) : EJ X Z sp (.BinOp a .Pow (.Constant (.int (n : Int)) j p) pos) (ma.bi fun x => powM x n) eI := fun F ad σ H Q S hm => by
  refine ofE (pe_op op_pow pe_w pe_int) ?_
  refine ha F ad σ H _ S (hm.bi.imp fun x q F1 H1 v n1 r1 => ?_)
  obtain ⟨c, q⟩ := q.gd
  exact ⟨x, n, r1, rfl, ⟨by omega, by omega, c⟩, by
    show Q (V.int (x ^ ((n : Int)).toNat)) H1
    rw [Int.toNat_natCast]
    exact q F1 H1 _ n1 rfl⟩
theorem ej_pow_l {x : Int} (n : Nat) {j : Nat} (ha : EJ X Z sp a (.ok x) eI) (hn : n ≤ 1000000 := by decide) (hx : x.natAbs < 2 ^ 64 := by decide) : EJ X Z sp (.BinOp a .Pow (.Constant (.int (n : Int)) j p) pos) (.ok (x ^ n)) eI := fun F ad σ H Q S hm =>
  ej_pow n ha hn F ad σ H Q S (by
    show mwp (gd _ _) _ _
    rw [gd_pos hx]
    exact hm)
theorem ej_neg {ma : Res Int} (ha : EJ X Z sp a ma eI) : EJ X Z sp (.UnaryOp .USub a pos) (ma.bi fun x => .ok (-x)) eI := fun F ad σ H Q S hm => by
  refine ofE (pe_un un_neg pe_w) ?_
  exact ha F ad σ H _ S (hm.bi.imp fun x q F1 H1 v n1 r1 => ⟨x, r1, q F1 H1 _ n1 rfl⟩)
theorem ej_neg_p {x : Int} (ha : EJ X Z sp a (.ok x) eI) : EJ X Z sp (.UnaryOp .USub a pos) (.ok (-x)) eI := ej_neg ha

/-! ### comparisons -/
/-- two values compared -/
def CJ (X : Cx) (Z : Fz) (sp : Spec X.K) (op : CmpOp) (a b : Expr) (m : Res Bool) : Prop :=
  ∃ r : R2, OpR X (compareOp op) r ∧ ∀ (F : Hp) (ad : List Addr) (σ : Sg) (H : Hp) (Q : VK), SOk Z F ad sp σ H → mwp m (fun c => ∀ F' H', Nx F H F' H' → Q (.bl c) H') Z.Er → wE X a σ H fun x H1 => wE X b σ H1 fun y H2 => r x y H2 Q
variable {op op' : CmpOp}
theorem ej_cmp {m : Res Bool} (h : CJ X Z sp op a b m) (hm : behindInMarks op b = false := by first | exact nomark _ | rfl) : EJ X Z sp (.Compare a [op] [b] pos) m eB := fun F ad σ H Q S hm' => by
  obtain ⟨r, ho, h⟩ := h
  exact ofE (pe_cmpR ho pe_w pe_w hm) (h F ad σ H Q S (hm'.imp fun c q F' H' n => q F' H' _ n rfl))
theorem tj_cmp {m : Res Bool} (h : CJ X Z sp op a b m) (hm : behindInMarks op b = false := by first | exact nomark _ | rfl) : TJ X Z sp (.Compare a [op] [b] pos) m := fun F ad σ H Q S hm' => by
  obtain ⟨r, ho, h⟩ := h
  exact ofT (pt_cmpR ho pe_w pe_w hm) (h F ad σ H _ S (hm'.imp fun c q F' H' n => ⟨c, rfl, q F' H' n⟩))
theorem cj_rI0 {f : Int → Int → Bool} {ma mb : Res Int} (ho : OpR X (compareOp op) (rI0 fun i j => .bl (f i j))) (ha : EJ X Z sp a ma eI) (hb : EJ X Z sp b mb eI) : CJ X Z sp op a b (ma.bi fun x => mb.bi fun y => .ok (f x y)) := ⟨_, ho, fun F ad σ H Q S hm => by
  refine ha F ad σ H _ S (hm.bi.imp fun x q F1 H1 v n1 r1 => ?_)
  refine hb F1 ad σ H1 _ (S.nx n1) (q.bi.imp fun y q F2 H2 u n2 r2 => ?_)
  exact ⟨x, y, r1, r2, q F2 H2 (n1.trans n2)⟩⟩
theorem cj_lt {ma mb : Res Int} (ha : EJ X Z sp a ma eI) (hb : EJ X Z sp b mb eI) : CJ X Z sp .Lt a b (ma.bi fun x => mb.bi fun y => .ok (decide (x < y))) := cj_rI0 op_lt ha hb
theorem cj_le {ma mb : Res Int} (ha : EJ X Z sp a ma eI) (hb : EJ X Z sp b mb eI) : CJ X Z sp .LtE a b (ma.bi fun x => mb.bi fun y => .ok (decide (x ≤ y))) := cj_rI0 op_le ha hb
theorem cj_gt {ma mb : Res Int} (ha : EJ X Z sp a ma eI) (hb : EJ X Z sp b mb eI) : CJ X Z sp .Gt a b (ma.bi fun x => mb.bi fun y => .ok (decide (y < x))) := cj_rI0 op_gt ha hb
theorem cj_ge {ma mb : Res Int} (ha : EJ X Z sp a ma eI) (hb : EJ X Z sp b mb eI) : CJ X Z sp .GtE a b (ma.bi fun x => mb.bi fun y => .ok (decide (y ≤ x))) := cj_rI0 op_ge ha hb
theorem cj_lt_p {x y : Int} (ha : EJ X Z sp a (.ok x) eI) (hb : EJ X Z sp b (.ok y) eI) : CJ X Z sp .Lt a b (.ok (decide (x < y))) := cj_lt ha hb
theorem cj_le_p {x y : Int} (ha : EJ X Z sp a (.ok x) eI) (hb : EJ X Z sp b (.ok y) eI) : CJ X Z sp .LtE a b (.ok (decide (x ≤ y))) := cj_le ha hb
theorem cj_gt_p {x y : Int} (ha : EJ X Z sp a (.ok x) eI) (hb : EJ X Z sp b (.ok y) eI) : CJ X Z sp .Gt a b (.ok (decide (y < x))) := cj_gt ha hb
theorem cj_ge_p {x y : Int} (ha : EJ X Z sp a (.ok x) eI) (hb : EJ X Z sp b (.ok y) eI) : CJ X Z sp .GtE a b (.ok (decide (y ≤ x))) := cj_ge ha hb
/-- ints, truths, texts, by themselves -/
structure ScE {K : Frag} {α : Type} [DecidableEq α] (e : Enc K α) : Prop where
  sc : ∀ F F' v w a b, e.rep F v a → e.rep F' w b → scal v w = true ∧ decide (v = w) = decide (a = b)
theorem scI {K : Frag} : ScE (eI : Enc K Int) := ⟨fun F F' v w a b h1 h2 => by
  have e1 : v = .int a := h1
  have e2 : w = .int b := h2
  subst e1 e2
  exact ⟨rfl, by simp⟩⟩
theorem scB {K : Frag} : ScE (eB : Enc K Bool) := ⟨fun F F' v w a b h1 h2 => by
  have e1 : v = .bl a := h1
  have e2 : w = .bl b := h2
  subst e1 e2
  exact ⟨rfl, by simp⟩⟩
theorem scS {K : Frag} : ScE (eS : Enc K Str) := ⟨fun F F' v w a b h1 h2 => by
  have e1 : v = .str a := h1
  have e2 : w = .str b := h2
  subst e1 e2
  exact ⟨rfl, by simp⟩⟩
theorem cj_eq [DecidableEq α] {en : Enc X.K α} (sc : ScE en) {ma mb : Res α} (ha : EJ X Z sp a ma en) (hb : EJ X Z sp b mb en) : CJ X Z sp .Eq a b (ma.bi fun x => mb.bi fun y => .ok (decide (x = y))) := ⟨_, op_eq, fun F ad σ H Q S hm => by
  refine ha F ad σ H _ S (hm.bi.imp fun x q F1 H1 v n1 r1 => ?_)
  refine hb F1 ad σ H1 _ (S.nx n1) (q.bi.imp fun y q F2 H2 u n2 r2 => ?_)
  obtain ⟨e1, e2⟩ := sc.sc F1 F2 v u x y r1 r2
  refine ⟨e1, ?_⟩
  rw [e2]
  exact q F2 H2 (n1.trans n2)⟩
theorem cj_ne [DecidableEq α] {en : Enc X.K α} (sc : ScE en) {ma mb : Res α} (ha : EJ X Z sp a ma en) (hb : EJ X Z sp b mb en) : CJ X Z sp .NotEq a b (ma.bi fun x => mb.bi fun y => .ok (!decide (x = y))) := ⟨_, op_ne, fun F ad σ H Q S hm => by
  refine ha F ad σ H _ S (hm.bi.imp fun x q F1 H1 v n1 r1 => ?_)
  refine hb F1 ad σ H1 _ (S.nx n1) (q.bi.imp fun y q F2 H2 u n2 r2 => ?_)
  obtain ⟨e1, e2⟩ := sc.sc F1 F2 v u x y r1 r2
  refine ⟨e1, ?_⟩
  rw [e2]
  exact q F2 H2 (n1.trans n2)⟩
theorem cj_eq_p [DecidableEq α] {en : Enc X.K α} (sc : ScE en) {x y : α} (ha : EJ X Z sp a (.ok x) en) (hb : EJ X Z sp b (.ok y) en) : CJ X Z sp .Eq a b (.ok (decide (x = y))) := cj_eq sc ha hb
theorem cj_ne_p [DecidableEq α] {en : Enc X.K α} (sc : ScE en) {x y : α} (ha : EJ X Z sp a (.ok x) en) (hb : EJ X Z sp b (.ok y) en) : CJ X Z sp .NotEq a b (.ok (!decide (x = y))) := cj_ne sc ha hb
/-- is None -/
def NoN {K : Frag} {α : Type} (e : Enc K α) : Prop := ∀ F v a, e.rep F v a → v ≠ .non
theorem nonI {K : Frag} : NoN (eI : Enc K Int) := fun F v a h z => by
  have e : v = .int a := h
  rw [e] at z; cases z
theorem nonB {K : Frag} : NoN (eB : Enc K Bool) := fun F v a h z => by
  have e : v = .bl a := h
  rw [e] at z; cases z
theorem nonS {K : Frag} : NoN (eS : Enc K Str) := fun F v a h z => by
  have e : v = .str a := h
  rw [e] at z; cases z
theorem nonL {K : Frag} {e : Enc K α} : NoN (eL e) := fun F v a h z => by
  obtain ⟨p, vs, e, _⟩ := h
  rw [e] at z; cases z
theorem nonT {K : Frag} {r : VsE K α} : NoN (eT r) := fun F v a h z => by
  obtain ⟨p, vs, e, _⟩ := h
  rw [e] at z; cases z
theorem dec_none {K : Frag} {en : Enc K α} (nn : NoN en) {F : Hp} {v : V} {o : Option α} (r : (eO en).rep F v o) : decide (v = .non) = o.isNone := by
  cases o with
  | none =>
    have e : v = .non := r
    subst e; rfl
  | some a => exact decide_eq_false (nn F v a r)
theorem cj_isN {en : Enc X.K α} (nn : NoN en) {m : Res (Option α)} {j : Nat} (ha : EJ X Z sp a m (eO en)) : CJ X Z sp .Is a (.Constant .none j p) (m.bi fun o => .ok o.isNone) := ⟨_, op_isN, fun F ad σ H Q S hm => by
  refine ha F ad σ H _ S (hm.bi.imp fun x q F1 H1 v n1 r1 => ?_)
  refine ofE pe_non ⟨rfl, ?_⟩
  rw [dec_none nn r1]
  exact q F1 H1 n1⟩
theorem cj_notN {en : Enc X.K α} (nn : NoN en) {m : Res (Option α)} {j : Nat} (ha : EJ X Z sp a m (eO en)) : CJ X Z sp .IsNot a (.Constant .none j p) (m.bi fun o => .ok !o.isNone) := ⟨_, op_notN, fun F ad σ H Q S hm => by
  refine ha F ad σ H _ S (hm.bi.imp fun x q F1 H1 v n1 r1 => ?_)
  refine ofE pe_non ⟨rfl, ?_⟩
  rw [dec_none nn r1]
  exact q F1 H1 n1⟩
theorem cj_isN_p {en : Enc X.K α} (nn : NoN en) {o : Option α} {j : Nat} (ha : EJ X Z sp a (.ok o) (eO en)) : CJ X Z sp .Is a (.Constant .none j p) (.ok o.isNone) := cj_isN nn ha
theorem cj_notN_p {en : Enc X.K α} (nn : NoN en) {o : Option α} {j : Nat} (ha : EJ X Z sp a (.ok o) (eO en)) : CJ X Z sp .IsNot a (.Constant .none j p) (.ok !o.isNone) := cj_notN nn ha
/-- a < b < c of ints -/
theorem tj_chain {f g : Int → Int → Bool} {ma mb mc : Res Int} (ho : OpR X (compareOp op) (rI0 fun i j => .bl (f i j))) (ho' : OpR X (compareOp op') (rI0 fun i j => .bl (g i j))) (ha : EJ X Z sp a ma eI) (hb : EJ X Z sp b mb eI) (hc : EJ X Z sp c mc eI)
    (hm' : lastMarks [op, op'] [b, c] = false := by rfl) : TJ X Z sp (.Compare a [op, op'] [b, c] pos) (ma.bi fun x => mb.bi fun y => if f x y then mc.bi fun z => .ok (g y z) else .ok false) := fun F ad σ H Q S hm => by
  refine ofT (pt_chain ho ho' pe_w pe_w pe_w hm') ?_
  refine ha F ad σ H _ S (hm.bi.imp fun x q F1 H1 v n1 r1 => ?_)
  refine hb F1 ad σ H1 _ (S.nx n1) (q.bi.imp fun y q F2 H2 u n2 r2 => ?_)
  refine ⟨x, y, r1, r2, f x y, rfl, ?_⟩
  cases e : f x y with
  | true =>
    rw [e] at q
    refine hc F2 ad σ H2 _ (S.nx (n1.trans n2)) (q.bi.imp fun z q F3 H3 t n3 r3 => ?_)
    exact ⟨y, z, r2, r3, _, rfl, q F3 H3 ((n1.trans n2).trans n3)⟩
  | false =>
    rw [e] at q
    exact ⟨_, rfl, q F2 H2 (n1.trans n2)⟩
theorem ej_chain {f g : Int → Int → Bool} {ma mb mc : Res Int} (ho : OpR X (compareOp op) (rI0 fun i j => .bl (f i j))) (ho' : OpR X (compareOp op') (rI0 fun i j => .bl (g i j))) (ha : EJ X Z sp a ma eI) (hb : EJ X Z sp b mb eI) (hc : EJ X Z sp c mc eI)
    (hm' : lastMarks [op, op'] [b, c] = false := by rfl) : EJ X Z sp (.Compare a [op, op'] [b, c] pos) (ma.bi fun x => mb.bi fun y => if f x y then mc.bi fun z => .ok (g y z) else .ok false) eB := fun F ad σ H Q S hm => by
  refine ofE (pe_chain ho ho' pe_w pe_w pe_w hm') ?_
  refine ha F ad σ H _ S (hm.bi.imp fun x q F1 H1 v n1 r1 => ?_)
  refine hb F1 ad σ H1 _ (S.nx n1) (q.bi.imp fun y q F2 H2 u n2 r2 => ?_)
  refine ⟨x, y, r1, r2, f x y, rfl, ?_⟩
  cases e : f x y with
  | true =>
    rw [e] at q
    refine hc F2 ad σ H2 _ (S.nx (n1.trans n2)) (q.bi.imp fun z q F3 H3 t n3 r3 => ?_)
    exact ⟨y, z, r2, r3, q F3 H3 _ ((n1.trans n2).trans n3) rfl⟩
  | false =>
    rw [e] at q
    exact q F2 H2 _ (n1.trans n2) rfl

/-! ### and, or, not -/
theorem tj_val {m : Res Bool} (h : EJ X Z sp e m eB) (he : ∀ whole, isTrue e X.env whole = (do let v ← whole; standAt e.pos; holding [v] (truthy v)) := by intro _; rfl) : TJ X Z sp e m := fun F ad σ H Q S hm =>
  ofT (pt_val pe_w he) (h F ad σ H _ S (hm.imp fun b q F' H' v n r => ⟨b, r, q F' H' n⟩))
theorem tj_not {m : Res Bool} (h : TJ X Z sp a m) : TJ X Z sp (.UnaryOp .Not a pos) (m.bi fun b => .ok !b) := fun F ad σ H Q S hm =>
  ofT (pt_not pt_w) (h F ad σ H _ S (hm.bi.imp fun b q F' H' n => q F' H' n))
theorem tj_not_p {x : Bool} (h : TJ X Z sp a (.ok x)) : TJ X Z sp (.UnaryOp .Not a pos) (.ok !x) := tj_not h
theorem ej_not {m : Res Bool} (h : EJ X Z sp a m eB) : EJ X Z sp (.UnaryOp .Not a pos) (m.bi fun b => .ok !b) eB := fun F ad σ H Q S hm =>
  ofE (pe_not pe_w) (h F ad σ H _ S (hm.bi.imp fun b q F' H' v n r => ⟨b, r, q F' H' _ n rfl⟩))
theorem ej_not_p {x : Bool} (h : EJ X Z sp a (.ok x) eB) : EJ X Z sp (.UnaryOp .Not a pos) (.ok !x) eB := ej_not h
theorem tj_wj {m : Res Bool} (h : WJ X Z sp e m) : TJ X Z sp e m := fun F ad σ H Q S hm => ofT (PW.pt pw_w) (h F ad σ H Q S hm)
theorem wj_and1 {m : Res Bool} (h : TJ X Z sp a m) : WJ X Z sp (.BoolOp .And [a] pos) m := fun F ad σ H Q S hm => ofW (pw_and1 pt_w) (h F ad σ H Q S hm)
theorem wj_or1 {m : Res Bool} (h : TJ X Z sp a m) : WJ X Z sp (.BoolOp .Or [a] pos) m := fun F ad σ H Q S hm => ofW (pw_or1 pt_w) (h F ad σ H Q S hm)
theorem wj_and {ma mb : Res Bool} (h : TJ X Z sp a ma) (h2 : WJ X Z sp (.BoolOp .And (b :: es) pos) mb) : WJ X Z sp (.BoolOp .And (a :: b :: es) pos) (ma.bi fun c => if c then mb else .ok false) := fun F ad σ H Q S hm => by
  refine ofW (pw_and pt_w pw_w) (h F ad σ H _ S (hm.bi.imp fun c q F' H' n => ?_))
  cases c with
  | true => exact h2 F' ad σ H' Q (S.nx n) (q.imp fun d q F2 H2 n2 => q F2 H2 (n.trans n2))
  | false => exact q F' H' n
theorem wj_or {ma mb : Res Bool} (h : TJ X Z sp a ma) (h2 : WJ X Z sp (.BoolOp .Or (b :: es) pos) mb) : WJ X Z sp (.BoolOp .Or (a :: b :: es) pos) (ma.bi fun c => if c then .ok true else mb) := fun F ad σ H Q S hm => by
  refine ofW (pw_or pt_w pw_w) (h F ad σ H _ S (hm.bi.imp fun c q F' H' n => ?_))
  cases c with
  | false => exact h2 F' ad σ H' Q (S.nx n) (q.imp fun d q F2 H2 n2 => q F2 H2 (n.trans n2))
  | true => exact q F' H' n
theorem wj_and_p {x y : Bool} (h : TJ X Z sp a (.ok x)) (h2 : WJ X Z sp (.BoolOp .And (b :: es) pos) (.ok y)) : WJ X Z sp (.BoolOp .And (a :: b :: es) pos) (.ok (x && y)) := fun F ad σ H Q S hm => wj_and h h2 F ad σ H Q S (by
  cases x <;> exact hm)
theorem wj_or_p {x y : Bool} (h : TJ X Z sp a (.ok x)) (h2 : WJ X Z sp (.BoolOp .Or (b :: es) pos) (.ok y)) : WJ X Z sp (.BoolOp .Or (a :: b :: es) pos) (.ok (x || y)) := fun F ad σ H Q S hm => wj_or h h2 F ad σ H Q S (by
  cases x <;> exact hm)
theorem ej_one {m : Res Bool} {bop : BoolOp} (h : EJ X Z sp a m eB) : EJ X Z sp (.BoolOp bop [a] pos) m eB := fun F ad σ H Q S hm => ofE (pe_one pe_w) (h F ad σ H Q S hm)
theorem ej_and {ma mb : Res Bool} (h : EJ X Z sp a ma eB) (h2 : EJ X Z sp (.BoolOp .And (b :: es) pos) mb eB) : EJ X Z sp (.BoolOp .And (a :: b :: es) pos) (ma.bi fun c => if c then mb else .ok false) eB := fun F ad σ H Q S hm => by
  refine ofE (pe_and pe_w pe_w) (h F ad σ H _ S (hm.bi.imp fun c q F' H' v n r => ⟨c, r, ?_⟩))
  cases c with
  | true => exact h2 F' ad σ H' Q (S.nx n) (q.imp fun d q F2 H2 v n2 r => q F2 H2 v (n.trans n2) r)
  | false => exact q F' H' _ n rfl
theorem ej_or {ma mb : Res Bool} (h : EJ X Z sp a ma eB) (h2 : EJ X Z sp (.BoolOp .Or (b :: es) pos) mb eB) : EJ X Z sp (.BoolOp .Or (a :: b :: es) pos) (ma.bi fun c => if c then .ok true else mb) eB := fun F ad σ H Q S hm => by
  refine ofE (pe_or pe_w pe_w) (h F ad σ H _ S (hm.bi.imp fun c q F' H' v n r => ⟨c, r, ?_⟩))
  cases c with
  | false => exact h2 F' ad σ H' Q (S.nx n) (q.imp fun d q F2 H2 v n2 r => q F2 H2 v (n.trans n2) r)
  | true => exact q F' H' _ n rfl
theorem ej_and_p {x y : Bool} (h : EJ X Z sp a (.ok x) eB) (h2 : EJ X Z sp (.BoolOp .And (b :: es) pos) (.ok y) eB) : EJ X Z sp (.BoolOp .And (a :: b :: es) pos) (.ok (x && y)) eB := fun F ad σ H Q S hm => ej_and h h2 F ad σ H Q S (by
  cases x <;> exact hm)
theorem ej_or_p {x y : Bool} (h : EJ X Z sp a (.ok x) eB) (h2 : EJ X Z sp (.BoolOp .Or (b :: es) pos) (.ok y) eB) : EJ X Z sp (.BoolOp .Or (a :: b :: es) pos) (.ok (x || y)) eB := fun F ad σ H Q S hm => ej_or h h2 F ad σ H Q S (by
  cases x <;> exact hm)
end
end Wk

set_option Elab.async false
set_option linter.all false
set_option maxRecDepth 100000
set_option maxHeartbeats 4000000
namespace Wk
open PySem PySem.Spec PyProof.Rows L2
/-! ### items -/
@[irreducible] def geti {α : Type} (xs : List α) (i : Int) : Res α := match atI xs i with
  | some a => .ok a
  | none => .bad
theorem mwp.geti {α : Type} {xs : List α} {i : Int} {Q : α → Prop} {E : Str → Prop} (h : mwp (geti xs i) Q E) : ∃ a, atI xs i = some a ∧ Q a := by
  unfold Wk.geti at h
  cases e : atI xs i with
  | none => rw [e] at h; exact h.elim
  | some a => rw [e] at h; exact ⟨a, rfl, h⟩
theorem Reps.atI {K : Frag} {α : Type} {e : Enc K α} {F : Hp} {vs : List V} {xs : List α} {i : Int} {x : α} (h : Reps e F vs xs) (hx : L2.atI xs i = some x) : ∃ v, L2.atI vs i = some v ∧ e.rep F v x := by
  unfold L2.atI at hx ⊢
  rw [h.length]
  cases q : ixN xs.length i with
  | none => rw [q] at hx; cases hx
  | some j =>
    rw [q] at hx
    exact h.get (show xs[j]? = some x from hx)
/-- an item is put -/
@[irreducible] def seti {α : Type} (xs : List α) (i : Int) (a : α) : Res (List α) := match ixN xs.length i with
  | some j => .ok (xs.set j a)
  | none => .bad
/-- a part of a list -/
def cutL {α : Type} (xs : List α) (lo hi : Option Int) : List α := (xs.drop (HT.sIx xs.length 0 lo)).take (HT.sIx xs.length xs.length hi - HT.sIx xs.length 0 lo)
section
variable {X : Cx} {Z : Fz} {sp : Spec X.K} {a b c e : Expr} {es : List Expr} {pos p p2 : Pos} {α β γ : Type}
theorem ej_ix {en : Enc X.K α} {ml : Res (List α)} {mi : Res Int} (hl : LJ X Z sp a ml en) (hi : EJ X Z sp b mi eI) (hs : PlainIx b := by intro _ _; rfl) : EJ X Z sp (.Subscript a b pos) (ml.bi fun xs => mi.bi fun i => geti xs i) en := fun F ad σ H Q S hm => by
  refine ofE (pe_ix ix_list pe_w pe_w hs) ?_
  refine hl F ad σ H _ S (hm.bi.imp fun xs q F1 H1 p vs n1 h1 hz1 r1 => ?_)
  refine hi F1 ad σ H1 _ (S.nx n1) (q.bi.imp fun i q F2 H2 u n2 r2 => ?_)
  obtain ⟨x, hx, q⟩ := q.geti
  obtain ⟨v, hv, rv⟩ := (r1.mono n2.ff).atI hx
  exact ⟨p, vs, i, v, rfl, r2, sqL_mono n2.hh h1, hv, q F2 H2 v (n1.trans n2) rv⟩
theorem ej_ix_p {en : Enc X.K α} {xs : List α} {i : Int} (hl : LJ X Z sp a (.ok xs) en) (hi : EJ X Z sp b (.ok i) eI) (hs : PlainIx b := by intro _ _; rfl) : EJ X Z sp (.Subscript a b pos) (geti xs i) en := ej_ix hl hi hs
/-- a tuple's place -/
theorem ej_tix {r : VsE X.K γ} {en : Enc X.K α} {f : γ → α} {ma : Res γ} (n : Nat) {j : Nat} (ha : EJ X Z sp a ma (eT r)) (hat : VAt r n en f) : EJ X Z sp (.Subscript a (.Constant (.int (n : Int)) j p) pos) (ma.bi fun g => .ok (f g)) en := fun F ad σ H Q S hm => by
  refine ofE (pe_ix ix_tup pe_w pe_int fun _ _ => rfl) ?_
  refine ha F ad σ H _ S (hm.bi.imp fun g q F1 H1 v n1 r1 => ?_)
  obtain ⟨p, vs, rfl, h1, h2⟩ := r1
  obtain ⟨v, hv, rv⟩ := hat F1 vs g h2
  exact ⟨p, vs, n, v, rfl, rfl, SqT.of (n1.fh _ _ h1), atI_nat hv, q F1 H1 v n1 rv⟩
theorem ej_tix_p {r : VsE X.K γ} {en : Enc X.K α} {f : γ → α} {g : γ} (n : Nat) {j : Nat} (ha : EJ X Z sp a (.ok g) (eT r)) (hat : VAt r n en f) : EJ X Z sp (.Subscript a (.Constant (.int (n : Int)) j p) pos) (.ok (f g)) en := ej_tix n ha hat
/-! ### calls of what is built in -/
def nst : Expr → Bool
  | .Starred _ _ => false
  | _ => true
theorem star_cons (h : nst e = true) {env : Env} : starEach (e :: es) env = (false, eval e env) :: starEach es env := by
  cases e <;> first
    | rfl
    | cases h
variable {fp : Pos} {x : Str} {id T : String} {r : List V → Hp → VK → Prop}
theorem callB1 (hc : CallR X (.builtin id) r) (hg : Gl X x) (hm : X.mg x = none) (hv : bootBuiltins x = some (.builtin id)) (hn : nst a = true) (hx : x ≠ "__name__" := by decide) (hdb : (x == ("__debug__" : Str)) = false := by decide) :
    PE X (.Call (.Name x fp) [a] [] pos) (tCB r (tCons (wE X a) tNil)) :=
  pe_callB hc hg hm hv (pa_cons pe_w pa_nil (star_cons hn)) hx hdb (star_cons hn) rfl
theorem callB2 (hc : CallR X (.builtin id) r) (hg : Gl X x) (hm : X.mg x = none) (hv : bootBuiltins x = some (.builtin id)) (hn : nst a = true) (hn2 : nst b = true) (hx : x ≠ "__name__" := by decide) (hdb : (x == ("__debug__" : Str)) = false := by decide) :
    PE X (.Call (.Name x fp) [a, b] [] pos) (tCB r (tCons (wE X a) (tCons (wE X b) tNil))) :=
  pe_callB hc hg hm hv (pa_cons pe_w (pa_cons pe_w pa_nil (star_cons hn2)) (star_cons hn)) hx hdb (star_cons hn) (by rw [star_cons hn2]; rfl)
theorem callT1 (hc : CallR X (.type T) r) (hg : Gl X x) (hm : X.mg x = none) (hv : bootBuiltins x = some (.type T)) (hn : nst a = true) (hx : x ≠ "__name__" := by decide) (hdb : (x == ("__debug__" : Str)) = false := by decide) :
    PE X (.Call (.Name x fp) [a] [] pos) (tCB r (tCons (wE X a) tNil)) :=
  pe_callTy hc hg hm hv (pa_cons pe_w pa_nil (star_cons hn)) hx hdb (star_cons hn) rfl
/-! ### len, min, max, sum, list -/
theorem ej_len {en : Enc X.K α} {m : Res (List α)} (hm : X.mg "len" = none) (h : LJ X Z sp a m en) (hg : Gl X "len" := by rfl) (hn : nst a = true := by rfl) : EJ X Z sp (.Call (.Name "len" fp) [a] [] pos) (m.bi fun xs => .ok (xs.length : Int)) eI := fun F ad σ H Q S hq => by
  refine ofE (callB1 call_len_seq hg hm boot_len hn) ?_
  refine h F ad σ H _ S (hq.bi.imp fun xs q F1 H1 p vs n1 h1 hz1 r1 => ?_)
  refine ⟨p, vs, rfl, .inl h1, ?_⟩
  rw [r1.length]
  exact q F1 H1 _ n1 rfl
theorem ej_len_p {en : Enc X.K α} {xs : List α} (hm : X.mg "len" = none) (h : LJ X Z sp a (.ok xs) en) (hg : Gl X "len" := by rfl) (hn : nst a = true := by rfl) : EJ X Z sp (.Call (.Name "len" fp) [a] [] pos) (.ok (xs.length : Int)) eI := ej_len hm h hg hn
def lenS (x : Str) : Res Int := gd (x.length ≤ sizeLine) (x.length : Int)
theorem ej_lens {m : Res Str} (hm : X.mg "len" = none) (h : EJ X Z sp a m eS) (hg : Gl X "len" := by rfl) (hn : nst a = true := by rfl) : EJ X Z sp (.Call (.Name "len" fp) [a] [] pos) (m.bi lenS) eI := fun F ad σ H Q S hq => by
  refine ofE (callB1 call_len_str hg hm boot_len hn) ?_
  refine h F ad σ H _ S (hq.bi.imp fun xs q F1 H1 v n1 r1 => ?_)
  obtain ⟨c, q⟩ := q.gd
  have r1 : v = .str xs := r1
  subst r1
  exact ⟨xs, rfl, c, q F1 H1 _ n1 rfl⟩
theorem ej_min2 {ma mb : Res Int} (hm : X.mg "min" = none) (ha : EJ X Z sp a ma eI) (hb : EJ X Z sp b mb eI) (hc : X.calm = true := by rfl) (hg : Gl X "min" := by rfl) (hn : nst a = true := by rfl) (hn2 : nst b = true := by rfl) : EJ X Z sp (.Call (.Name "min" fp) [a, b] [] pos) (ma.bi fun x => mb.bi fun y => .ok (min x y)) eI := fun F ad σ H Q S hq => by
  refine ofE (callB2 (call_min2 hc) hg hm boot_min hn hn2) ?_
  refine ha F ad σ H _ S (hq.bi.imp fun x q F1 H1 v n1 r1 => ?_)
  refine hb F1 ad σ H1 _ (S.nx n1) (q.bi.imp fun y q F2 H2 u n2 r2 => ?_)
  have r1 : v = .int x := r1
  have r2 : u = .int y := r2
  subst r1 r2
  refine ⟨x, y, rfl, ?_⟩
  have e : (if y < x then y else x) = min x y := by
    rw [Int.min_def]
    split <;> split <;> omega
  rw [e]
  exact q F2 H2 _ (n1.trans n2) rfl
theorem ej_max2 {ma mb : Res Int} (hm : X.mg "max" = none) (ha : EJ X Z sp a ma eI) (hb : EJ X Z sp b mb eI) (hc : X.calm = true := by rfl) (hg : Gl X "max" := by rfl) (hn : nst a = true := by rfl) (hn2 : nst b = true := by rfl) : EJ X Z sp (.Call (.Name "max" fp) [a, b] [] pos) (ma.bi fun x => mb.bi fun y => .ok (max x y)) eI := fun F ad σ H Q S hq => by
  refine ofE (callB2 (call_max2 hc) hg hm boot_max hn hn2) ?_
  refine ha F ad σ H _ S (hq.bi.imp fun x q F1 H1 v n1 r1 => ?_)
  refine hb F1 ad σ H1 _ (S.nx n1) (q.bi.imp fun y q F2 H2 u n2 r2 => ?_)
  have r1 : v = .int x := r1
  have r2 : u = .int y := r2
  subst r1 r2
  refine ⟨x, y, rfl, ?_⟩
  have e : (if y > x then y else x) = max x y := by
    rw [Int.max_def]
    split <;> split <;> omega
  rw [e]
  exact q F2 H2 _ (n1.trans n2) rfl
theorem ej_min2_p {x y : Int} (hm : X.mg "min" = none) (ha : EJ X Z sp a (.ok x) eI) (hb : EJ X Z sp b (.ok y) eI) (hc : X.calm = true := by rfl) (hg : Gl X "min" := by rfl) (hn : nst a = true := by rfl) (hn2 : nst b = true := by rfl) : EJ X Z sp (.Call (.Name "min" fp) [a, b] [] pos) (.ok (min x y)) eI := ej_min2 hm ha hb hc hg hn hn2
theorem ej_max2_p {x y : Int} (hm : X.mg "max" = none) (ha : EJ X Z sp a (.ok x) eI) (hb : EJ X Z sp b (.ok y) eI) (hc : X.calm = true := by rfl) (hg : Gl X "max" := by rfl) (hn : nst a = true := by rfl) (hn2 : nst b = true := by rfl) : EJ X Z sp (.Call (.Name "max" fp) [a, b] [] pos) (.ok (max x y)) eI := ej_max2 hm ha hb hc hg hn hn2
/-- the least of some, the greatest -/
def minL (xs : List Int) : Res Int := match xs with
  | [] => .bad
  | x :: r => .ok (r.foldl min x)
def maxL (xs : List Int) : Res Int := match xs with
  | [] => .bad
  | x :: r => .ok (r.foldl max x)
theorem foldl_min_le : ∀ (r : List Int) (x : Int), r.foldl min x ≤ x ∧ (∀ y ∈ r, r.foldl min x ≤ y) ∧ (r.foldl min x = x ∨ r.foldl min x ∈ r)
  | [], x => ⟨Int.le_refl _, (fun _ h => nomatch h), Or.inl rfl⟩
  | z :: r, x => by
    obtain ⟨h1, h2, h3⟩ := foldl_min_le r (min x z)
    rw [List.foldl_cons]
    have ex : min x z ≤ x := Int.min_le_left ..
    have ez : min x z ≤ z := Int.min_le_right ..
    refine ⟨by omega, fun y hy => ?_, ?_⟩
    · rcases List.mem_cons.mp hy with rfl | hy
      · omega
      · exact h2 y hy
    · rcases h3 with h3 | h3
      · rw [h3, Int.min_def]
        split
        · exact .inl rfl
        · exact .inr (List.mem_cons_self ..)
      · exact .inr (List.mem_cons_of_mem _ h3)
theorem foldl_max_le : ∀ (r : List Int) (x : Int), x ≤ r.foldl max x ∧ (∀ y ∈ r, y ≤ r.foldl max x) ∧ (r.foldl max x = x ∨ r.foldl max x ∈ r)
  | [], x => ⟨Int.le_refl _, (fun _ h => nomatch h), Or.inl rfl⟩
  | z :: r, x => by
    obtain ⟨h1, h2, h3⟩ := foldl_max_le r (max x z)
    rw [List.foldl_cons]
    have ex : x ≤ max x z := Int.le_max_left ..
    have ez : z ≤ max x z := Int.le_max_right ..
    refine ⟨by omega, fun y hy => ?_, ?_⟩
    · rcases List.mem_cons.mp hy with rfl | hy
      · omega
      · exact h2 y hy
    · rcases h3 with h3 | h3
      · rw [h3, Int.max_def]
        split
        · exact .inr (List.mem_cons_self ..)
        · exact .inl rfl
      · exact .inr (List.mem_cons_of_mem _ h3)
theorem ej_minL {m : Res (List Int)} (hm : X.mg "min" = none) (h : LJ X Z sp a m eI) (hc : X.calm = true := by rfl) (hg : Gl X "min" := by rfl) (hn : nst a = true := by rfl) : EJ X Z sp (.Call (.Name "min" fp) [a] [] pos) (m.bi minL) eI := fun F ad σ H Q S hq => by
  refine ofE (callB1 (cr_min hc) hg hm boot_min hn) ?_
  refine h F ad σ H _ S (hq.bi.imp fun xs q F1 H1 p vs n1 h1 hz1 r1 => ?_)
  have e := r1.int
  subst e
  cases xs with
  | nil => exact q.elim
  | cons x r =>
    refine ⟨p, x :: r, rfl, h1, by simp, fun m hm hle => ?_⟩
    obtain ⟨k1, k2, k3⟩ := foldl_min_le r x
    have e : m = r.foldl min x := by
      have g1 : m ≤ r.foldl min x := by
        rcases k3 with k3 | k3
        · rw [k3]; exact hle x (List.mem_cons_self ..)
        · exact hle _ (List.mem_cons_of_mem _ k3)
      have g2 : r.foldl min x ≤ m := by
        rcases List.mem_cons.mp hm with rfl | hm
        · exact k1
        · exact k2 _ hm
      omega
    rw [e]
    exact q F1 H1 _ n1 rfl
theorem ej_maxL {m : Res (List Int)} (hm : X.mg "max" = none) (h : LJ X Z sp a m eI) (hc : X.calm = true := by rfl) (hg : Gl X "max" := by rfl) (hn : nst a = true := by rfl) : EJ X Z sp (.Call (.Name "max" fp) [a] [] pos) (m.bi maxL) eI := fun F ad σ H Q S hq => by
  refine ofE (callB1 (cr_max hc) hg hm boot_max hn) ?_
  refine h F ad σ H _ S (hq.bi.imp fun xs q F1 H1 p vs n1 h1 hz1 r1 => ?_)
  have e := r1.int
  subst e
  cases xs with
  | nil => exact q.elim
  | cons x r =>
    refine ⟨p, x :: r, rfl, h1, by simp, fun m hm hle => ?_⟩
    obtain ⟨k1, k2, k3⟩ := foldl_max_le r x
    have e : m = r.foldl max x := by
      have g1 : r.foldl max x ≤ m := by
        rcases k3 with k3 | k3
        · rw [k3]; exact hle x (List.mem_cons_self ..)
        · exact hle _ (List.mem_cons_of_mem _ k3)
      have g2 : m ≤ r.foldl max x := by
        rcases List.mem_cons.mp hm with rfl | hm
        · exact k1
        · exact k2 _ hm
      omega
    rw [e]
    exact q F1 H1 _ n1 rfl
theorem ej_minL_p {xs : List Int} (hm : X.mg "min" = none) (h : LJ X Z sp a (.ok xs) eI) (hc : X.calm = true := by rfl) (hg : Gl X "min" := by rfl) (hn : nst a = true := by rfl) : EJ X Z sp (.Call (.Name "min" fp) [a] [] pos) (minL xs) eI := ej_minL hm h hc hg hn
theorem ej_maxL_p {xs : List Int} (hm : X.mg "max" = none) (h : LJ X Z sp a (.ok xs) eI) (hc : X.calm = true := by rfl) (hg : Gl X "max" := by rfl) (hn : nst a = true := by rfl) : EJ X Z sp (.Call (.Name "max" fp) [a] [] pos) (maxL xs) eI := ej_maxL hm h hc hg hn
theorem ej_sum {m : Res (List Int)} (hm : X.mg "sum" = none) (h : LJ X Z sp a m eI) (hc : X.calm = true := by rfl) (hg : Gl X "sum" := by rfl) (hn : nst a = true := by rfl) : EJ X Z sp (.Call (.Name "sum" fp) [a] [] pos) (m.bi fun xs => .ok xs.sum) eI := fun F ad σ H Q S hq => by
  refine ofE (callB1 (cr_sum hc) hg hm boot_sum hn) ?_
  refine h F ad σ H _ S (hq.bi.imp fun xs q F1 H1 p vs n1 h1 hz1 r1 => ?_)
  have e := r1.int
  subst e
  exact ⟨p, xs, rfl, h1, q F1 H1 _ n1 rfl⟩
theorem ej_sum_p {xs : List Int} (hm : X.mg "sum" = none) (h : LJ X Z sp a (.ok xs) eI) (hc : X.calm = true := by rfl) (hg : Gl X "sum" := by rfl) (hn : nst a = true := by rfl) : EJ X Z sp (.Call (.Name "sum" fp) [a] [] pos) (.ok xs.sum) eI := ej_sum hm h hc hg hn
theorem ej_intB {m : Res Bool} (hm : X.mg "int" = none) (h : EJ X Z sp a m eB) (hg : Gl X "int" := by rfl) (hn : nst a = true := by rfl) : EJ X Z sp (.Call (.Name "int" fp) [a] [] pos) (m.bi fun b => .ok (if b then 1 else 0)) eI := fun F ad σ H Q S hq => by
  refine ofE (callT1 call_int1 hg hm PyProof.Rows.boot_int hn) ?_
  refine h F ad σ H _ S (hq.bi.imp fun b q F1 H1 v n1 r1 => .inr ⟨b, ?_, q F1 H1 _ n1 rfl⟩)
  have r1 : v = .bl b := r1
  rw [r1]
theorem ej_intB_p {b : Bool} (hm : X.mg "int" = none) (h : EJ X Z sp a (.ok b) eB) (hg : Gl X "int" := by rfl) (hn : nst a = true := by rfl) : EJ X Z sp (.Call (.Name "int" fp) [a] [] pos) (.ok (if b then 1 else 0)) eI := ej_intB hm h hg hn
theorem fj_list {en : Enc X.K α} {m : Res (List α)} (hm : X.mg "list" = none) (h : LJ X Z sp a m en) (hg : Gl X "list" := by rfl) (hn : nst a = true := by rfl) : FJ X Z sp (.Call (.Name "list" fp) [a] [] pos) m en := fun F ad σ H Q S hq => by
  refine ofE (callT1 call_list_of hg hm PyProof.Rows.boot_list hn) ?_
  refine h F ad σ H _ S (hq.imp fun xs q F1 H1 p vs n1 h1 hz1 r1 => ?_)
  refine ⟨p, vs, rfl, .inl h1, fun l hl => ?_⟩
  obtain ⟨g1, g2⟩ := n1.free hl
  exact q F1 _ l vs (n1.new hl) g1 g2 upd_same hz1 r1
/-- a tuple of any length, of one type -/
def eTL {K : Frag} (e : Enc K α) : Enc K (List α) := ⟨fun F v xs => ∃ p vs, v = .ref p ∧ F p = some (.tup vs) ∧ vs.length ≤ sizeLine ∧ Reps e F vs xs, fun s ⟨p, vs, h1, h2, hz, h3⟩ => ⟨p, vs, h1, s _ _ h2, hz, h3.mono s⟩⟩
theorem fj_tupl {en : Enc X.K α} {m : Res (List α)} (hm : X.mg "list" = none) (h : EJ X Z sp a m (eTL en)) (hg : Gl X "list" := by rfl) (hn : nst a = true := by rfl) : FJ X Z sp (.Call (.Name "list" fp) [a] [] pos) m en := fun F ad σ H Q S hq => by
  refine ofE (callT1 call_list_of hg hm PyProof.Rows.boot_list hn) ?_
  refine h F ad σ H _ S (hq.imp fun xs q F1 H1 v n1 r1 => ?_)
  obtain ⟨p, vs, rfl, h1, hz1, r1⟩ := r1
  refine ⟨p, vs, rfl, .inr (SqT.of (n1.fh _ _ h1)), fun l hl => ?_⟩
  obtain ⟨g1, g2⟩ := n1.free hl
  exact q F1 _ l vs (n1.new hl) g1 g2 upd_same hz1 r1
/-! ### slices -/
theorem oj_none : OJ X Z sp none (.ok none) := ⟨_, po_none, fun F ad σ H Q S hq => hq F H S.refl⟩
theorem oj_some {m : Res Int} (h : EJ X Z sp e m eI) : OJ X Z sp (some e) (m.bi fun i => .ok (some i)) := ⟨_, po_some pe_w, fun F ad σ H Q S hq => h F ad σ H _ S (hq.bi.imp fun i q F1 H1 v n1 r1 => ⟨i, r1, q F1 H1 n1⟩)⟩
theorem oj_some_p {i : Int} (h : EJ X Z sp e (.ok i) eI) : OJ X Z sp (some e) (.ok (some i)) := oj_some h
theorem fj_slice {lo hi : Option Expr} {en : Enc X.K α} {m : Res (List α)} {ml mh : Res (Option Int)} (h : LJ X Z sp a m en) (hl : OJ X Z sp lo ml) (hh : OJ X Z sp hi mh) :
    FJ X Z sp (.Subscript a (.Slice lo hi none p2) pos) (m.bi fun xs => ml.bi fun i => mh.bi fun j => .ok (cutL xs i j)) en := fun F ad σ H Q S hq => by
  obtain ⟨tl, pl, hl⟩ := hl
  obtain ⟨th, ph, hh⟩ := hh
  refine ofE (pe_slice sl_list pe_w pl ph) ?_
  refine h F ad σ H _ S (hq.bi.imp fun xs q F1 H1 p vs n1 h1 hz1 r1 => ?_)
  refine hl F1 ad σ H1 _ (S.nx n1) (q.bi.imp fun i q F2 H2 n2 => ?_)
  refine hh F2 ad σ H2 _ (S.nx (n1.trans n2)) (q.bi.imp fun j q F3 H3 n3 => ?_)
  have n := (n1.trans n2).trans n3
  refine ⟨p, vs, rfl, sqL_mono (n2.trans n3).hh h1, fun l hl => ?_⟩
  obtain ⟨g1, g2⟩ := n.free hl
  refine q F3 _ l _ (n.new hl) g1 g2 upd_same (Nat.le_trans (cutV_length _ _ _) hz1) ?_
  have r := r1.mono (n2.trans n3).ff
  unfold cutV cutL
  rw [r.length]
  exact (r.drop _).take _
theorem fj_slice_p {lo hi : Option Expr} {en : Enc X.K α} {xs : List α} {i j : Option Int} (h : LJ X Z sp a (.ok xs) en) (hl : OJ X Z sp lo (.ok i)) (hh : OJ X Z sp hi (.ok j)) :
    FJ X Z sp (.Subscript a (.Slice lo hi none p2) pos) (.ok (cutL xs i j)) en := fj_slice h hl hh
/-! ### displays -/
theorem ij_nil {en : Enc X.K α} : IJ X Z sp [] (.ok []) en := fun F ad σ H Q S hq => ofA pa_nil (hq F H [] S.refl .nil rfl)
theorem ij_cons {en : Enc X.K α} {m : Res α} {ms : Res (List α)} (h : EJ X Z sp e m en) (hr : IJ X Z sp es ms en) (hn : nst e = true := by rfl) : IJ X Z sp (e :: es) (m.bi fun x => ms.bi fun xs => .ok (x :: xs)) en := fun F ad σ H Q S hq => by
  refine ofA (pa_cons pe_w pa_w (star_cons hn)) ?_
  refine h F ad σ H _ S (hq.bi.imp fun x q F1 H1 v n1 r1 => ?_)
  refine hr F1 ad σ H1 _ (S.nx n1) (q.bi.imp fun xs q F2 H2 vs n2 r2 hl => ?_)
  exact q F2 H2 _ (n1.trans n2) (.cons (en.mono n2.ff r1) r2) (by rw [List.length_cons, List.length_cons, hl])
theorem ij_cons_p {en : Enc X.K α} {x : α} {xs : List α} (h : EJ X Z sp e (.ok x) en) (hr : IJ X Z sp es (.ok xs) en) (hn : nst e = true := by rfl) : IJ X Z sp (e :: es) (.ok (x :: xs)) en := ij_cons h hr hn
theorem fj_lst {en : Enc X.K α} {m : Res (List α)} (h : IJ X Z sp es m en) (hl : es.length ≤ 1000 := by decide) : FJ X Z sp (.List es pos) m en := fun F ad σ H Q S hq => by
  refine ofE (pe_lst pa_w) ?_
  refine h F ad σ H _ S (hq.imp fun xs q F1 H1 vs n1 r1 e => ?_)
  refine ⟨Nat.le_of_lt (small1000 (by omega)), fun l hl => ?_⟩
  obtain ⟨g1, g2⟩ := n1.free hl
  exact q F1 _ l vs (n1.new hl) g1 g2 upd_same (Nat.le_of_lt (small1000 (by omega))) r1
theorem vj_one {en : Enc X.K α} {m : Res α} (h : EJ X Z sp e m en) (hn : nst e = true := by rfl) : VJ X Z sp [e] m (vs1 en) := fun F ad σ H Q S hq => by
  refine ofA (pa_cons pe_w pa_nil (star_cons hn)) ?_
  exact h F ad σ H _ S (hq.imp fun x q F1 H1 v n1 r1 => q F1 H1 [v] n1 ⟨v, rfl, r1⟩ rfl)
theorem vj_cons {en : Enc X.K α} {r : VsE X.K γ} {m : Res α} {mg : Res γ} (h : EJ X Z sp e m en) (hr : VJ X Z sp es mg r) (hn : nst e = true := by rfl) : VJ X Z sp (e :: es) (m.bi fun x => mg.bi fun g => .ok (x, g)) (vsC en r) := fun F ad σ H Q S hq => by
  refine ofA (pa_cons pe_w pa_w (star_cons hn)) ?_
  refine h F ad σ H _ S (hq.bi.imp fun x q F1 H1 v n1 r1 => ?_)
  refine hr F1 ad σ H1 _ (S.nx n1) (q.bi.imp fun g q F2 H2 vs n2 r2 hl => ?_)
  exact q F2 H2 _ (n1.trans n2) ⟨v, vs, rfl, en.mono n2.ff r1, r2⟩ (by rw [List.length_cons, List.length_cons, hl])
theorem vj_cons_p {en : Enc X.K α} {r : VsE X.K γ} {x : α} {g : γ} (h : EJ X Z sp e (.ok x) en) (hr : VJ X Z sp es (.ok g) r) (hn : nst e = true := by rfl) : VJ X Z sp (e :: es) (.ok (x, g)) (vsC en r) := vj_cons h hr hn
theorem ej_tup {r : VsE X.K γ} {m : Res γ} {k : Nat} (h : VJ X Z sp es m r) (hl : es.length ≤ 1000 := by decide) : EJ X Z sp (.Tuple es k pos) m (eT r) := fun F ad σ H Q S hq => by
  refine ofE (pe_tup pa_w) ?_
  refine h F ad σ H _ S (hq.imp fun g q F1 H1 vs n1 r1 e => ?_)
  refine ⟨Nat.le_of_lt (small1000 (by omega)), fun l hl => ?_⟩
  obtain ⟨g1, g2⟩ := n1.free hl
  exact q (upd F1 l (.tup vs)) _ (.ref l) ((n1.new hl).fix g1 g2 upd_same) ⟨l, vs, rfl, upd_same, r.mono (same_upd g2) r1⟩
/-! ### +, * of lists -/
/-- a list of ours, a new one or one that stays -/
def MJ (X : Cx) (Z : Fz) (sp : Spec X.K) (e : Expr) {α : Type} (m : Res (List α)) (en : Enc X.K α) : Prop :=
  ∀ (F : Hp) (ad : List Addr) (σ : Sg) (H : Hp) (Q : VK), SOk Z F ad sp σ H → mwp m (fun xs => ∀ F' H' p vs, Nx F H F' H' → H' p = some (.lst vs) → vs.length ≤ sizeLine → Reps en F' vs xs → Q (.ref p) H') Z.Er → wE X e σ H Q
theorem mj_fj {en : Enc X.K α} {m : Res (List α)} (h : FJ X Z sp e m en) : MJ X Z sp e m en := fun F ad σ H Q S hm =>
  h F ad σ H Q S (hm.imp fun xs q F' H' p vs n h1 h2 h3 hz h4 => q F' H' p vs n h3 hz h4)
theorem mj_ej {en : Enc X.K α} {m : Res (List α)} (h : EJ X Z sp e m (eL en)) : MJ X Z sp e m en := fun F ad σ H Q S hm => by
  refine h F ad σ H Q S (hm.imp fun xs q F' H' v n r => ?_)
  obtain ⟨p, vs, rfl, h2, hz, h3⟩ := r
  exact q F' H' p vs n (n.fh _ _ h2) hz h3
theorem mj_own {i k : Nat} {x : Str} {en : Enc X.K α} {xs : List α} (hs : sp.sl[i]? = some (.own k) := by rfl) {t : Option Addr} (ho : sp.ob[k]? = some (.lst t en xs) := by rfl) (hN : X.N[i]? = some x := by rfl)
    (hv : Vis X.env.scope x := by first | exact Or.inl rfl | exact Or.inr (Or.inl rfl) | exact Or.inr (Or.inr rfl)) (hd : (x == ("__debug__" : Str)) = false := by decide) (hcd : (x == ("__classdict__" : Str)) = false := by decide) :
    MJ X Z sp (.Name x pos) (.ok xs) en := fun F ad σ H Q S h => by
  refine ofE (pe_var (i := i) hN hv hd hcd) ?_
  obtain ⟨o, h1, p, h2, h3⟩ := S.sl i _ hs
  obtain ⟨p', h4, vs, h5, hz, h6, h7, h8⟩ := S.ob k _ ho
  rw [h2] at h4
  have e : p = p' := Option.some.inj h4
  subst e
  exact ⟨.ref p, by rw [h1, h3], h F H p vs S.refl h5 hz h6⟩
theorem lj_mj {en : Enc X.K α} {m : Res (List α)} (h : MJ X Z sp e m en) : LJ X Z sp e m en := fun F ad σ H Q S hm =>
  h F ad σ H Q S (hm.imp fun xs q F' H' p vs n h1 hz h2 => q F' H' p vs n (SqL.of h1) hz h2)
def catM {α : Type} (xs ys : List α) : Res (List α) := gd (xs.length + ys.length ≤ sizeLine) (xs ++ ys)
theorem fj_cat {en : Enc X.K α} {ma mb : Res (List α)} (ha : MJ X Z sp a ma en) (hb : MJ X Z sp b mb en) : FJ X Z sp (.BinOp a .Add b pos) (ma.bi fun xs => mb.bi fun ys => catM xs ys) en := fun F ad σ H Q S hq => by
  refine ofE (pe_op op_cat pe_w pe_w) ?_
  refine ha F ad σ H _ S (hq.bi.imp fun xs q F1 H1 p vs n1 h1 hz1 r1 => ?_)
  refine hb F1 ad σ H1 _ (S.nx n1) (q.bi.imp fun ys q F2 H2 p2 ws n2 h2 hz2 r2 => ?_)
  obtain ⟨c, q⟩ := q.gd
  have n := n1.trans n2
  refine ⟨p, p2, vs, ws, rfl, rfl, n2.hh _ _ h1, h2, by rw [r1.length, r2.length]; exact c, fun l hl => ?_⟩
  obtain ⟨g1, g2⟩ := n.free hl
  exact q F2 _ l _ (n.new hl) g1 g2 upd_same (by rw [List.length_append, r1.length, r2.length]; exact c) ((r1.mono n2.ff).append r2)
theorem fj_cat_p {en : Enc X.K α} {xs ys : List α} (ha : MJ X Z sp a (.ok xs) en) (hb : MJ X Z sp b (.ok ys) en) : FJ X Z sp (.BinOp a .Add b pos) (catM xs ys) en := fj_cat ha hb
def repM {α : Type} (xs : List α) (k : Int) : Res (List α) := gd (-(2 ^ 63) ≤ k ∧ k < 2 ^ 63 ∧ xs.length * k.toNat ≤ sizeLine) (List.replicate k.toNat xs).flatten
theorem Reps.flat {K : Frag} {en : Enc K α} {F : Hp} {vs : List V} {xs : List α} (h : Reps en F vs xs) : ∀ k : Nat, Reps en F (List.replicate k vs).flatten (List.replicate k xs).flatten
  | 0 => .nil
  | k + 1 => by
    rw [List.replicate_succ, List.replicate_succ, List.flatten_cons, List.flatten_cons]
    exact h.append (Reps.flat h k)
theorem fj_rep {en : Enc X.K α} {ma : Res (List α)} {mb : Res Int} (ha : MJ X Z sp a ma en) (hb : EJ X Z sp b mb eI) : FJ X Z sp (.BinOp a .Mult b pos) (ma.bi fun xs => mb.bi fun k => repM xs k) en := fun F ad σ H Q S hq => by
  refine ofE (pe_op op_rep pe_w pe_w) ?_
  refine ha F ad σ H _ S (hq.bi.imp fun xs q F1 H1 p vs n1 h1 hz1 r1 => ?_)
  refine hb F1 ad σ H1 _ (S.nx n1) (q.bi.imp fun k q F2 H2 v n2 r2 => ?_)
  obtain ⟨⟨c1, c2, c3⟩, q⟩ := q.gd
  have n := n1.trans n2
  refine ⟨p, k, vs, rfl, r2, n2.hh _ _ h1, c1, c2, by rw [r1.length]; exact c3, fun l hl => ?_⟩
  obtain ⟨g1, g2⟩ := n.free hl
  exact q F2 _ l _ (n.new hl) g1 g2 upd_same (by rw [((r1.mono n2.ff).flat _).length]; simpa [Nat.mul_comm] using c3) ((r1.mono n2.ff).flat _)
theorem fj_rep_p {en : Enc X.K α} {xs : List α} {k : Int} (ha : MJ X Z sp a (.ok xs) en) (hb : EJ X Z sp b (.ok k) eI) : FJ X Z sp (.BinOp a .Mult b pos) (repM xs k) en := fj_rep ha hb
/-! ### in, index: flat things -/
/-- flat data: their equality -/
structure FlE {K : Frag} {α : Type} [DecidableEq α] (e : Enc K α) : Prop where
  fl : ∀ F v a, e.rep F v a → flatV v = true
  eq : ∀ F F' v w a b, e.rep F v a → e.rep F' w b → eqV v w = decide (a = b)
theorem flI {K : Frag} : FlE (eI : Enc K Int) := ⟨fun F v a h => by
  have e : v = .int a := h
  subst e; rfl, fun F F' v w a b h1 h2 => by
  have e1 : v = .int a := h1
  have e2 : w = .int b := h2
  subst e1 e2
  show (a == b) = decide (a = b)
  by_cases e : a = b
  · subst e; simp
  · simp [e]⟩
theorem flS {K : Frag} : FlE (eS : Enc K Str) := ⟨fun F v a h => by
  have e : v = .str a := h
  subst e; rfl, fun F F' v w a b h1 h2 => by
  have e1 : v = .str a := h1
  have e2 : w = .str b := h2
  subst e1 e2
  show (a == b) = decide (a = b)
  by_cases e : a = b
  · subst e; simp
  · simp [e]⟩
theorem Reps.flat_all {K : Frag} [DecidableEq α] {en : Enc K α} (fl : FlE en) {F : Hp} : ∀ {vs : List V} {xs : List α}, Reps en F vs xs → vs.all flatV = true
  | _, _, .nil => rfl
  | _, _, .cons r t => by rw [List.all_cons, fl.fl _ _ _ r, Reps.flat_all fl t]; rfl
theorem Reps.inV {K : Frag} [DecidableEq α] {en : Enc K α} (fl : FlE en) {F F' : Hp} {v : V} {x : α} (r : en.rep F' v x) : ∀ {vs : List V} {xs : List α}, Reps en F vs xs → inV v vs = decide (x ∈ xs)
  | _, _, .nil => by simp [L2.inV]
  | _, _, .cons (a := w) (b := y) (l₁ := vs) (l₂ := xs) q t => by
    show (w :: vs).any (fun y => eqV y v) = _
    rw [List.any_cons, show vs.any (fun y => eqV y v) = decide (x ∈ xs) from Reps.inV fl r t, fl.eq _ _ _ _ _ _ q r]
    simp [List.mem_cons, eq_comm]
theorem cj_in [DecidableEq α] {en : Enc X.K α} (fl : FlE en) {ma : Res α} {mb : Res (List α)} (ha : EJ X Z sp a ma en) (hb : LJ X Z sp b mb en) : CJ X Z sp .In a b (ma.bi fun x => mb.bi fun xs => .ok (decide (x ∈ xs))) := ⟨_, op_in_seq, fun F ad σ H Q S hm => by
  refine ha F ad σ H _ S (hm.bi.imp fun x q F1 H1 v n1 r1 => ?_)
  refine hb F1 ad σ H1 _ (S.nx n1) (q.bi.imp fun xs q F2 H2 p vs n2 h2 hz2 r2 => ?_)
  refine ⟨p, vs, rfl, .inl h2, fl.fl _ _ _ r1, r2.flat_all fl, ?_⟩
  rw [r2.inV fl r1]
  exact q F2 H2 (n1.trans n2)⟩
theorem cj_notIn [DecidableEq α] {en : Enc X.K α} (fl : FlE en) {ma : Res α} {mb : Res (List α)} (ha : EJ X Z sp a ma en) (hb : LJ X Z sp b mb en) : CJ X Z sp .NotIn a b (ma.bi fun x => mb.bi fun xs => .ok (!decide (x ∈ xs))) := ⟨_, op_notIn_seq, fun F ad σ H Q S hm => by
  refine ha F ad σ H _ S (hm.bi.imp fun x q F1 H1 v n1 r1 => ?_)
  refine hb F1 ad σ H1 _ (S.nx n1) (q.bi.imp fun xs q F2 H2 p vs n2 h2 hz2 r2 => ?_)
  refine ⟨p, vs, rfl, .inl h2, fl.fl _ _ _ r1, r2.flat_all fl, ?_⟩
  rw [r2.inV fl r1]
  exact q F2 H2 (n1.trans n2)⟩
theorem cj_in_p [DecidableEq α] {en : Enc X.K α} (fl : FlE en) {x : α} {xs : List α} (ha : EJ X Z sp a (.ok x) en) (hb : LJ X Z sp b (.ok xs) en) : CJ X Z sp .In a b (.ok (decide (x ∈ xs))) := cj_in fl ha hb
theorem cj_notIn_p [DecidableEq α] {en : Enc X.K α} (fl : FlE en) {x : α} {xs : List α} (ha : EJ X Z sp a (.ok x) en) (hb : LJ X Z sp b (.ok xs) en) : CJ X Z sp .NotIn a b (.ok (!decide (x ∈ xs))) := cj_notIn fl ha hb
/-- the first place of an item -/
def idxM {α : Type} [DecidableEq α] (xs : List α) (x : α) : Res Int := match xs.findIdx? (fun y => decide (y = x)) with
  | some j => .ok (j : Int)
  | none => .bad
theorem bm_list {apos : Pos} {name : Str} {r : V → List V → Hp → VK → Prop} (slot : Slot "list" name id) (hty : typeOf (.builtin id) = pure (.type "method_descriptor")) (hm : MtR X id r) (hn : nst b = true) (hline : (apos.endLine == pos.line) = true)
    (hbase : attributeBase a name X.env (eval a X.env) = eval a X.env) : PE X (.Call (.Attribute a name apos) [b] [] pos) (tBM X.K "list" r (wE X a) (tCons (wE X b) tNil)) :=
  pe_bm PySem.F.plainAttrs_list slot hty hm pe_w (pa_cons pe_w pa_nil (star_cons hn)) hbase (by rw [star_cons hn]; rfl) hline (star_cons hn) rfl
theorem find_some {α : Type} [DecidableEq α] {xs : List α} {x : α} {j : Nat} (h : xs.findIdx? (fun y => decide (y = x)) = some j) : xs[j]? = some x ∧ ∀ m < j, ∀ z, xs[m]? = some z → z ≠ x := by
  rw [List.findIdx?_eq_some_iff_getElem] at h
  obtain ⟨hj, h1, h2⟩ := h
  refine ⟨by rw [List.getElem?_eq_getElem hj]; exact congrArg some (of_decide_eq_true h1), fun m hm z hz e => ?_⟩
  have q := h2 m hm
  have hml : m < xs.length := Nat.lt_trans hm hj
  rw [List.getElem?_eq_getElem hml] at hz
  have e2 : xs[m] = z := Option.some.inj hz
  rw [e2, e] at q
  simp at q
theorem ej_index [DecidableEq α] {apos : Pos} {en : Enc X.K α} (fl : FlE en) {ma : Res (List α)} {mb : Res α} (ha : LJ X Z sp a ma en) (hb : EJ X Z sp b mb en) (hn : nst b = true := by rfl) (hline : (apos.endLine == pos.line) = true := by rfl)
    (hbase : attributeBase a "index" X.env (eval a X.env) = eval a X.env := by rfl) : EJ X Z sp (.Call (.Attribute a "index" apos) [b] [] pos) (ma.bi fun xs => mb.bi fun x => idxM xs x) eI := fun F ad σ H Q S hq => by
  refine ofE (bm_list PySem.F.slot_list_index PySem.F.type_list_index mt_index hn hline hbase) ?_
  refine ha F ad σ H _ S (hq.bi.imp fun xs q F1 H1 p vs n1 h1 hz1 r1 => ⟨.inl ⟨rfl, vs, h1⟩, ?_⟩)
  refine hb F1 ad σ H1 _ (S.nx n1) (q.bi.imp fun x q F2 H2 v n2 r2 => ?_)
  unfold idxM at q
  cases e : xs.findIdx? (fun y => decide (y = x)) with
  | none => rw [e] at q; exact q.elim
  | some j =>
    rw [e] at q
    obtain ⟨g1, g2⟩ := find_some e
    have r := r1.mono n2.ff
    obtain ⟨w, k1, k2⟩ := r.get g1
    refine ⟨p, vs, v, j, w, rfl, rfl, sqL_mono n2.hh h1, fl.fl _ _ _ r2, r.flat_all fl, k1, by rw [fl.eq _ _ _ _ _ _ k2 r2]; simp, fun m z hm hz => ?_, q F2 H2 _ (n1.trans n2) rfl⟩
    obtain ⟨y, k3, k4⟩ := r.getV hz
    rw [fl.eq _ _ _ _ _ _ k4 r2]
    exact decide_eq_false (g2 m hm y k3)
theorem ej_index_p [DecidableEq α] {apos : Pos} {en : Enc X.K α} (fl : FlE en) {xs : List α} {x : α} (ha : LJ X Z sp a (.ok xs) en) (hb : EJ X Z sp b (.ok x) en) (hn : nst b = true := by rfl) (hline : (apos.endLine == pos.line) = true := by rfl)
    (hbase : attributeBase a "index" X.env (eval a X.env) = eval a X.env := by rfl) : EJ X Z sp (.Call (.Attribute a "index" apos) [b] [] pos) (idxM xs x) eI := ej_index fl ha hb hn hline hbase
/-! ### isinstance -/
def TyE {K : Frag} {α : Type} (e : Enc K α) (t : String) : Prop := ∀ F H v a, Same F H → e.rep F v a → TyX K H v (.type t)
theorem tyI {K : Frag} : TyE (eI : Enc K Int) "int" := fun F H v a s h => by
  have e : v = .int a := h
  subst e; exact .base (.int a)
theorem tyB {K : Frag} : TyE (eB : Enc K Bool) "bool" := fun F H v a s h => by
  have e : v = .bl a := h
  subst e; exact .base (.bl a)
theorem tyS {K : Frag} : TyE (eS : Enc K Str) "str" := fun F H v a s h => by
  have e : v = .str a := h
  subst e; exact .base (.str a)
theorem tyU {K : Frag} : TyE (eU : Enc K Unit) "NoneType" := fun F H v a s h => by
  have e : v = .non := h
  subst e; exact .base .non
theorem tyL {K : Frag} {e : Enc K α} : TyE (eL e) "list" := fun F H v a s h => by
  obtain ⟨p, vs, rfl, h1, hz, h2⟩ := h
  exact .base (.lst (s _ _ h1))
theorem tyX_T {K : Frag} {H : Hp} {p : Addr} {vs : List V} (h : SqT K H p vs) : TyX K H (.ref p) (.type "tuple") := by
  rcases h with (h | ⟨o, h⟩) | ⟨o, its, n, h1, h2, _⟩
  · exact .base (.tup h)
  · exact .fTuple h
  · exact .kTuple h1 h2
theorem tyX_L {K : Frag} {H : Hp} {p : Addr} {vs : List V} (h : SqL K H p vs) : TyX K H (.ref p) (.type "list") := by
  rcases h with (h | ⟨o, h⟩) | ⟨o, its, n, h1, h2, _⟩
  · exact .base (.lst h)
  · exact .base (.frz h)
  · exact .kList h1 h2
theorem tyT {K : Frag} {r : VsE K α} : TyE (eT r) "tuple" := fun F H v a s h => by
  obtain ⟨p, vs, rfl, h1, h2⟩ := h
  exact .base (.tup (s _ _ h1))
/-- isinstance of a value, T a built-in type -/
theorem ej_isi {en : Enc X.K α} {m : Res α} {t n : String} {x : Str} {bt : Bool} {xp : Pos} (ty : TyE en t) (hm : X.mg "isinstance" = none) (hm2 : X.mg x = none) (hv : bootBuiltins x = some (.type n)) (hk : kitB t n = some bt) (ha : EJ X Z sp a m en) (hg : Gl X "isinstance" := by rfl) (hg2 : Gl X x := by rfl) (hn : nst a = true := by rfl)
    (hx : x ≠ "__name__" := by decide) (hdb : (x == ("__debug__" : Str)) = false := by decide) : EJ X Z sp (.Call (.Name "isinstance" fp) [a, .Name x xp] [] pos) (m.bi fun _ => .ok bt) eB := fun F ad σ H Q S hq => by
  refine ofE (callB2 call_isi hg hm PyProof.Rows.boot_isinstance hn rfl) ?_
  refine ha F ad σ H _ S (hq.bi.imp fun xs q F1 H1 v n1 r1 => ?_)
  refine ofE (pe_bltn (v := .ty n) hg2 hm2 hv rfl hx hdb) ?_
  exact ⟨v, .ty n, .type t, .type n, bt, rfl, .ty n, ty F1 H1 v xs n1.fh r1, kit_ty hk, q F1 H1 _ n1 rfl⟩
theorem ej_isi_p {en : Enc X.K α} {v : α} {t n : String} {x : Str} {bt : Bool} {xp : Pos} (ty : TyE en t) (hm : X.mg "isinstance" = none) (hm2 : X.mg x = none) (hv : bootBuiltins x = some (.type n)) (hk : kitB t n = some bt) (ha : EJ X Z sp a (.ok v) en) (hg : Gl X "isinstance" := by rfl) (hg2 : Gl X x := by rfl) (hn : nst a = true := by rfl)
    (hx : x ≠ "__name__" := by decide) (hdb : (x == ("__debug__" : Str)) = false := by decide) : EJ X Z sp (.Call (.Name "isinstance" fp) [a, .Name x xp] [] pos) (.ok bt) eB := ej_isi ty hm hm2 hv hk ha hg hg2 hn hx hdb
/-- of a list of ours -/
theorem ej_isiL {en : Enc X.K α} {m : Res (List α)} {n : String} {x : Str} {bt : Bool} {xp : Pos} (hm : X.mg "isinstance" = none) (hm2 : X.mg x = none) (hv : bootBuiltins x = some (.type n)) (hk : kitB "list" n = some bt) (ha : LJ X Z sp a m en) (hg : Gl X "isinstance" := by rfl) (hg2 : Gl X x := by rfl) (hn : nst a = true := by rfl)
    (hx : x ≠ "__name__" := by decide) (hdb : (x == ("__debug__" : Str)) = false := by decide) : EJ X Z sp (.Call (.Name "isinstance" fp) [a, .Name x xp] [] pos) (m.bi fun _ => .ok bt) eB := fun F ad σ H Q S hq => by
  refine ofE (callB2 call_isi hg hm PyProof.Rows.boot_isinstance hn rfl) ?_
  refine ha F ad σ H _ S (hq.bi.imp fun xs q F1 H1 p vs n1 h1 hz1 r1 => ?_)
  refine ofE (pe_bltn (v := .ty n) hg2 hm2 hv rfl hx hdb) ?_
  exact ⟨.ref p, .ty n, .type "list", .type n, bt, rfl, .ty n, tyX_L h1, kit_ty hk, q F1 H1 _ n1 rfl⟩
theorem ej_isiL_p {en : Enc X.K α} {xs : List α} {n : String} {x : Str} {bt : Bool} {xp : Pos} (hm : X.mg "isinstance" = none) (hm2 : X.mg x = none) (hv : bootBuiltins x = some (.type n)) (hk : kitB "list" n = some bt) (ha : LJ X Z sp a (.ok xs) en) (hg : Gl X "isinstance" := by rfl) (hg2 : Gl X x := by rfl) (hn : nst a = true := by rfl)
    (hx : x ≠ "__name__" := by decide) (hdb : (x == ("__debug__" : Str)) = false := by decide) : EJ X Z sp (.Call (.Name "isinstance" fp) [a, .Name x xp] [] pos) (.ok bt) eB := ej_isiL hm hm2 hv hk ha hg hg2 hn hx hdb
/-! ### sorted -/
def leI (i j : Int) : Bool := decide (i ≤ j)
def leP (x y : Int × Int) : Bool := decide (x.1 < y.1) || (decide (x.1 = y.1) && decide (x.2 ≤ y.2))
theorem perm_sorted_eq {α : Type} {r : α → α → Prop} (anti : ∀ a b, r a b → r b a → a = b) : ∀ {xs ys : List α}, xs.Perm ys → xs.Pairwise r → ys.Pairwise r → xs = ys
  | [], ys, h, _, _ => (List.nil_perm.mp h).symm ▸ rfl
  | x :: xs, [], h, _, _ => nomatch (List.perm_nil.mp h)
  | x :: xs, y :: ys, h, hx, hy => by
    have ex : x = y := by
      have h1 : x ∈ y :: ys := h.subset (List.mem_cons_self ..)
      have h2 : y ∈ x :: xs := h.symm.subset (List.mem_cons_self ..)
      rcases List.mem_cons.mp h1 with e | h1
      · exact e
      · rcases List.mem_cons.mp h2 with e | h2
        · exact e.symm
        · exact anti _ _ ((List.pairwise_cons.mp hx).1 _ h2) ((List.pairwise_cons.mp hy).1 _ h1)
    subst ex
    rw [perm_sorted_eq anti (List.Perm.cons_inv h) (List.pairwise_cons.mp hx).2 (List.pairwise_cons.mp hy).2]
theorem sort_int (xs : List Int) : (xs.mergeSort leI).Perm xs ∧ (xs.mergeSort leI).Pairwise (· ≤ ·) := ⟨List.mergeSort_perm _ _, by
  have h := List.pairwise_mergeSort (le := leI) (fun a b c h1 h2 => by
    have h1 := of_decide_eq_true h1
    have h2 := of_decide_eq_true h2
    exact decide_eq_true (Int.le_trans h1 h2)) (fun a b => by
    unfold leI
    by_cases h : a ≤ b
    · simp [h]
    · simp [h]; omega) xs
  exact h.imp fun q => of_decide_eq_true q⟩
theorem fj_sorted {m : Res (List Int)} (hm : X.mg "sorted" = none) (h : LJ X Z sp a m eI) (hg : Gl X "sorted" := by rfl) (hn : nst a = true := by rfl) : FJ X Z sp (.Call (.Name "sorted" fp) [a] [] pos) (m.bi fun xs => .ok (xs.mergeSort leI)) eI := fun F ad σ H Q S hq => by
  refine ofE (callB1 cr_sortedI hg hm (by decide +kernel) hn) ?_
  refine h F ad σ H _ S (hq.bi.imp fun xs q F1 H1 p vs n1 h1 hz1 r1 => ?_)
  have e := r1.int
  subst e
  refine ⟨p, xs, rfl, h1, fun ns' l pm pw hl => ?_⟩
  obtain ⟨g1, g2⟩ := n1.free hl
  obtain ⟨k1, k2⟩ := sort_int xs
  have e : ns' = xs.mergeSort leI := perm_sorted_eq (fun a b => Int.le_antisymm) (pm.trans k1.symm) pw k2
  subst e
  exact q F1 _ l _ (n1.new hl) g1 g2 upd_same (by rw [List.length_map, k1.length_eq]; simpa using hz1) (Reps.ofInt _)
theorem fj_sorted_p {xs : List Int} (hm : X.mg "sorted" = none) (h : LJ X Z sp a (.ok xs) eI) (hg : Gl X "sorted" := by rfl) (hn : nst a = true := by rfl) : FJ X Z sp (.Call (.Name "sorted" fp) [a] [] pos) (.ok (xs.mergeSort leI)) eI := fj_sorted hm h hg hn
def eP {K : Frag} : Enc K (Int × Int) := eT (vsC eI (vs1 eI))
def pairOf (H : Hp) (v : V) : Int × Int := match v with
  | .ref t => (match H t with
    | some (.tup [.int a, .int b]) => (a, b)
    | _ => (0, 0))
  | _ => (0, 0)
theorem eP_at {K : Frag} {F H : Hp} {v : V} {x : Int × Int} (s : Same F H) (h : (eP : Enc K (Int × Int)).rep F v x) : pairOf H v = x ∧ ∃ t, v = .ref t ∧ H t = some (.tup [.int (pairOf H v).1, .int (pairOf H v).2]) := by
  obtain ⟨p, vs, rfl, h1, v1, ws, rfl, e1, v2, rfl, e2⟩ := h
  have e1 : v1 = .int x.1 := e1
  have e2 : v2 = .int x.2 := e2
  subst e1 e2
  have h2 := s _ _ h1
  have e : pairOf H (.ref p) = x := by
    unfold pairOf
    simp only [h2]
  rw [e]
  exact ⟨rfl, p, rfl, h2⟩
theorem leP_anti (a b : Int × Int) (h1 : leP a b = true) (h2 : leP b a = true) : a = b := by
  obtain ⟨a1, a2⟩ := a
  obtain ⟨b1, b2⟩ := b
  simp only [leP, Bool.or_eq_true, Bool.and_eq_true, decide_eq_true_eq] at h1 h2
  have e1 : a1 = b1 := by omega
  have e2 : a2 = b2 := by omega
  rw [e1, e2]
theorem sort_pair (xs : List (Int × Int)) : (xs.mergeSort leP).Perm xs ∧ (xs.mergeSort leP).Pairwise (fun a b => leP a b = true) := ⟨List.mergeSort_perm _ _, List.pairwise_mergeSort (fun a b c h1 h2 => by
    simp only [leP, Bool.or_eq_true, Bool.and_eq_true, decide_eq_true_eq] at h1 h2 ⊢
    omega) (fun a b => by
    simp only [leP, Bool.or_eq_true, Bool.and_eq_true, decide_eq_true_eq]
    omega) xs⟩
theorem Reps.mem {K : Frag} {en : Enc K α} {F : Hp} {vs : List V} {xs : List α} (h : Reps en F vs xs) {v : V} (hv : v ∈ vs) : ∃ x ∈ xs, en.rep F v x := by
  obtain ⟨i, hi⟩ := List.mem_iff_getElem?.mp hv
  obtain ⟨x, h1, h2⟩ := h.getV hi
  exact ⟨x, List.mem_of_getElem? h1, h2⟩
theorem Reps.ofMap {K : Frag} {en : Enc K α} {F : Hp} {f : V → α} : ∀ {vs : List V}, (∀ v ∈ vs, en.rep F v (f v)) → Reps en F vs (vs.map f)
  | [], _ => .nil
  | v :: vs, h => .cons (h v (List.mem_cons_self ..)) (Reps.ofMap fun w hw => h w (List.mem_cons_of_mem _ hw))
theorem Reps.isMap {K : Frag} {en : Enc K α} {F : Hp} {f : V → α} (hf : ∀ v x, en.rep F v x → f v = x) : ∀ {vs : List V} {xs : List α}, Reps en F vs xs → xs = vs.map f
  | _, _, .nil => rfl
  | _, _, .cons r t => by rw [List.map_cons, hf _ _ r, ← Reps.isMap hf t]
theorem fj_sortedP {m : Res (List (Int × Int))} (hm : X.mg "sorted" = none) (h : LJ X Z sp a m eP) (hg : Gl X "sorted" := by rfl) (hn : nst a = true := by rfl) : FJ X Z sp (.Call (.Name "sorted" fp) [a] [] pos) (m.bi fun xs => .ok (xs.mergeSort leP)) eP := fun F ad σ H Q S hq => by
  refine ofE (callB1 cr_sortedPO hg hm (by decide +kernel) hn) ?_
  refine h F ad σ H _ S (hq.bi.imp fun xs q F1 H1 p vs n1 h1 hz1 r1 => ?_)
  refine ⟨p, vs, pairOf H1, rfl, h1, fun v hv => ?_, fun ys l srt stb hl => ?_⟩
  · obtain ⟨x, _, hx⟩ := r1.mem hv
    exact (eP_at n1.fh hx).2
  · obtain ⟨g1, g2⟩ := n1.free hl
    have ex : xs = vs.map (pairOf H1) := r1.isMap fun v x hx => (eP_at n1.fh hx).1
    have ry : Reps eP F1 ys (ys.map (pairOf H1)) := Reps.ofMap fun v hv => by
      obtain ⟨x, _, hx⟩ := r1.mem (stb.perm.mem_iff.mp hv)
      rw [(eP_at n1.fh hx).1]
      exact hx
    have pm : (ys.map (pairOf H1)).Perm xs := by
      rw [ex]
      exact stb.perm.map _
    obtain ⟨k1, k2⟩ := sort_pair xs
    have pw : (ys.map (pairOf H1)).Pairwise (fun a b => leP a b = true) := by
      rw [List.pairwise_map]
      refine List.Pairwise.imp (fun {u v} q => ?_) srt
      have q2 := SrtO.lexB_no.mp q
      simp only [leP, Bool.or_eq_true, Bool.and_eq_true, decide_eq_true_eq]
      omega
    have e : ys.map (pairOf H1) = xs.mergeSort leP := perm_sorted_eq leP_anti (pm.trans k1.symm) pw k2
    rw [e] at ry
    exact q F1 _ l _ (n1.new hl) g1 g2 upd_same (by rw [stb.perm.length_eq]; exact hz1) ry
theorem fj_sortedP_p {xs : List (Int × Int)} (hm : X.mg "sorted" = none) (h : LJ X Z sp a (.ok xs) eP) (hg : Gl X "sorted" := by rfl) (hn : nst a = true := by rfl) : FJ X Z sp (.Call (.Name "sorted" fp) [a] [] pos) (.ok (xs.mergeSort leP)) eP := fj_sortedP hm h hg hn
end
end Wk

set_option Elab.async false
set_option linter.all false
set_option maxRecDepth 100000
set_option maxHeartbeats 4000000
namespace Wk
open PySem PySem.Spec PyProof.Rows L2
/-! ### contracts of defs -/
/-- a row of arguments: how it shows data; the slots that it makes -/
structure ArE (K : Frag) (γ : Type) where
  rep : Hp → Hp → List V → γ → Prop
  mono : ∀ {F F' H H' : Hp} {vs : List V} {g : γ}, Same F F' → Same H H' → rep F H vs g → rep F' H' vs g
  sl : γ → List (Sl K)
  ok : ∀ {F H : Hp} {vs : List V} {g : γ}, rep F H vs g → vs.length = (sl g).length ∧ ∀ (i : Nat) (s : Sl K), (sl g)[i]? = some s → ∃ v, vs[i]? = some v ∧ slOk H F [] s (some v)
section
variable {K : Frag} {α β γ ρ : Type}
def ar0 : ArE K Unit := ⟨fun _ _ vs _ => vs = [], fun _ _ h => h, fun _ => [], fun h => by
  subst h
  exact ⟨rfl, fun i s e => by simp at e⟩⟩
def arV (e : Enc K α) (r : ArE K γ) : ArE K (α × γ) := ⟨fun F H vs g => ∃ v ws, vs = v :: ws ∧ e.rep F v g.1 ∧ r.rep F H ws g.2, fun s t ⟨v, ws, h1, h2, h3⟩ => ⟨v, ws, h1, e.mono s h2, r.mono s t h3⟩, fun g => .val e g.1 :: r.sl g.2, fun ⟨v, ws, h1, h2, h3⟩ => by
  subst h1
  obtain ⟨k1, k2⟩ := r.ok h3
  refine ⟨by rw [List.length_cons, List.length_cons, k1], fun i s e => ?_⟩
  cases i with
  | zero =>
    simp at e
    subst e
    exact ⟨v, rfl, v, rfl, h2⟩
  | succ i =>
    obtain ⟨u, q1, q2⟩ := k2 i s (by simpa using e)
    exact ⟨u, by simpa using q1, q2⟩⟩
def arL (e : Enc K α) (r : ArE K γ) : ArE K (List α × γ) := ⟨fun F H vs g => ∃ p us ws, vs = .ref p :: ws ∧ SqL K H p us ∧ us.length ≤ sizeLine ∧ Reps e F us g.1 ∧ r.rep F H ws g.2, fun s t ⟨p, us, ws, h1, h2, hz, h3, h4⟩ => ⟨p, us, ws, h1, sqL_mono t h2, hz, h3.mono s, r.mono s t h4⟩, fun g => .bor e g.1 :: r.sl g.2, fun ⟨p, us, ws, h1, h2, hz, h3, h4⟩ => by
  subst h1
  obtain ⟨k1, k2⟩ := r.ok h4
  refine ⟨by rw [List.length_cons, List.length_cons, k1], fun i s e => ?_⟩
  cases i with
  | zero =>
    simp at e
    subst e
    exact ⟨.ref p, rfl, p, us, rfl, h2, hz, h3⟩
  | succ i =>
    obtain ⟨u, q1, q2⟩ := k2 i s (by simpa using e)
    exact ⟨u, by simpa using q1, q2⟩⟩
/-- what is handed back: by the heap at the entry, what stays, the heap at the end -/
abbrev RtE (ρ : Type) := Hp → Hp → Hp → V → ρ → Prop
def rtV (e : Enc K ρ) : RtE ρ := fun _ F' _ v r => e.rep F' v r
def rtN (e : Enc K α) : RtE (List α) := fun G F' H' v r => ∃ p vs, v = .ref p ∧ G p = none ∧ F' p = none ∧ H' p = some (.lst vs) ∧ vs.length ≤ sizeLine ∧ Reps e F' vs r
def spF (mg : Str → Option Value) (A : ArE K γ) (mf : γ → Res ρ) (R : RtE ρ) : Sp := fun vs H Q E => ∃ F g, Same F H ∧ A.rep F H vs g ∧
  mwp (mf g) (fun r => ∀ F' H' v, Nx F H F' H' → R H F' H' v r → Q v H') (fun c => ∀ C H', mg c = some (.ref C) → Same H H' → E (.ref C) none H')
end
/-- a def of the text, by its promise -/
structure Cal (P : Program) (w : World) (K : Frag) (mg : Str → Option Value) (base : Heap) (x : Str) (k : Nat) (sp : Sp) : Prop where
  ex : ∃ f fd ps, FnOk P w K mg base (L2.CX P w) k f fd ps sp ∧ mg x = some (.ref f) ∧ PySem.W.keepIn K (.ref f) = true ∧ Binds K fd ps []
/-- where code runs -/
structure Amb (X : Cx) (Z : Fz) (k : Nat) : Prop where
  hr : Room k X.A
  calm : X.calm = true
  nd : X.N.Nodup
  po : PassesOwn (model X.prog X.w) X.A X.env X.xe
  ps : ∃ E : XK, Takes X (fun cls d _ H => E cls d H) ∧ ∀ c, Z.Er c → ∀ C H', X.mg c = some (.ref C) → Same Z.G H' → E (.ref C) none H'
section
variable {X : Cx} {Z : Fz} {sp : Spec X.K} {a b c e : Expr} {es : List Expr} {pos p p2 fp : Pos} {α β γ ρ : Type} {k j : Nat} {x : Str}
def AJ (X : Cx) (Z : Fz) (sp : Spec X.K) (es : List Expr) {γ : Type} (m : Res γ) (A : ArE X.K γ) : Prop :=
  ∀ (F : Hp) (ad : List Addr) (σ : Sg) (H : Hp) (Q : List V → Hp → Prop), SOk Z F ad sp σ H → mwp m (fun g => ∀ F' H' vs, Nx F H F' H' → A.rep F' H' vs g → Q vs H') Z.Er → wA X es σ H Q
theorem aj_nil : AJ X Z sp [] (.ok ()) ar0 := fun F ad σ H Q S hq => ofA pa_nil (hq F H [] S.refl rfl)
theorem aj_val {en : Enc X.K α} {A : ArE X.K γ} {m : Res α} {mr : Res γ} (h : EJ X Z sp e m en) (hr : AJ X Z sp es mr A) (hn : nst e = true := by rfl) : AJ X Z sp (e :: es) (m.bi fun x => mr.bi fun g => .ok (x, g)) (arV en A) := fun F ad σ H Q S hq => by
  refine ofA (pa_cons pe_w pa_w (star_cons hn)) ?_
  refine h F ad σ H _ S (hq.bi.imp fun x q F1 H1 v n1 r1 => ?_)
  refine hr F1 ad σ H1 _ (S.nx n1) (q.bi.imp fun g q F2 H2 vs n2 r2 => ?_)
  exact q F2 H2 _ (n1.trans n2) ⟨v, vs, rfl, en.mono n2.ff r1, r2⟩
theorem aj_lst {en : Enc X.K α} {A : ArE X.K γ} {m : Res (List α)} {mr : Res γ} (h : LJ X Z sp e m en) (hr : AJ X Z sp es mr A) (hn : nst e = true := by rfl) : AJ X Z sp (e :: es) (m.bi fun x => mr.bi fun g => .ok (x, g)) (arL en A) := fun F ad σ H Q S hq => by
  refine ofA (pa_cons pe_w pa_w (star_cons hn)) ?_
  refine h F ad σ H _ S (hq.bi.imp fun x q F1 H1 p us n1 h1 hz r1 => ?_)
  refine hr F1 ad σ H1 _ (S.nx n1) (q.bi.imp fun g q F2 H2 vs n2 r2 => ?_)
  exact q F2 H2 _ (n1.trans n2) ⟨p, us, vs, rfl, sqL_mono n2.hh h1, hz, r1.mono n2.ff, r2⟩
theorem aj_val_p {en : Enc X.K α} {A : ArE X.K γ} {v : α} {g : γ} (h : EJ X Z sp e (.ok v) en) (hr : AJ X Z sp es (.ok g) A) (hn : nst e = true := by rfl) : AJ X Z sp (e :: es) (.ok (v, g)) (arV en A) := aj_val h hr hn
theorem aj_lst_p {en : Enc X.K α} {A : ArE X.K γ} {v : List α} {g : γ} (h : LJ X Z sp e (.ok v) en) (hr : AJ X Z sp es (.ok g) A) (hn : nst e = true := by rfl) : AJ X Z sp (e :: es) (.ok (v, g)) (arL en A) := aj_lst h hr hn
/-- a call -/
theorem call_core {A : ArE X.K γ} {mf : γ → Res ρ} {R : RtE ρ} {ma : Res γ} (am : Amb X Z k) (C : Cal X.prog X.w X.K X.mg X.base x j (spF X.mg A mf R)) (hj : j ≤ k) (ha : AJ X Z sp (e :: es) ma A) (hn : nst e = true) (hg : Gl X x)
    (hpl : (backTo pos (starEach es X.env)).any (·.1) = false) (hdb : (x == ("__debug__" : Str)) = false) (F : Hp) (ad : List Addr) (σ : Sg) (H : Hp) (Q : VK) (S : SOk Z F ad sp σ H)
    (hm : mwp (ma.bi mf) (fun r => ∀ F' H' v F1 H1, Nx F H F1 H1 → Nx F1 H1 F' H' → R H1 F' H' v r → Q v H') Z.Er) : wE X (.Call (.Name x fp) (e :: es) [] pos) σ H Q := by
  obtain ⟨f, fd, ps, G, hmg, hk, hb⟩ := C.ex
  obtain ⟨E, pE, hE⟩ := am.ps
  refine ofE (pe_call (E := E) G (am.hr.mono hj) hg hmg hk hb .nil (passes_call pE fun _ _ _ _ h => h) pa_w hdb (star_cons hn) hpl) ?_
  refine ha F ad σ H _ S (hm.bi.imp fun g q F1 H1 vs n1 r1 => ?_)
  show spF X.mg A mf R (vs ++ []) H1 Q E
  rw [List.append_nil]
  exact ⟨F1, g, n1.fh, r1, q.imp2 (fun r q F' H' v n2 hr => q F' H' v F1 H1 n1 n2 hr) fun c hc C H' hC s => hE c hc C H' hC (S.gh.trans (n1.hh.trans s))⟩
theorem ej_call {A : ArE X.K γ} {mf : γ → Res ρ} {en : Enc X.K ρ} {ma : Res γ} (am : Amb X Z k) (C : Cal X.prog X.w X.K X.mg X.base x j (spF X.mg A mf (rtV en))) (hj : j ≤ k) (ha : AJ X Z sp (e :: es) ma A) (hn : nst e = true := by rfl) (hg : Gl X x := by rfl)
    (hpl : (backTo pos (starEach es X.env)).any (·.1) = false := by rfl) (hdb : (x == ("__debug__" : Str)) = false := by decide) : EJ X Z sp (.Call (.Name x fp) (e :: es) [] pos) (ma.bi mf) en := fun F ad σ H Q S hm =>
  call_core am C hj ha hn hg hpl hdb F ad σ H Q S (hm.imp fun r q F' H' v F1 H1 n1 n2 hr => q F' H' v (n1.trans n2) hr)
theorem fj_call {A : ArE X.K γ} {mf : γ → Res (List ρ)} {en : Enc X.K ρ} {ma : Res γ} (am : Amb X Z k) (C : Cal X.prog X.w X.K X.mg X.base x j (spF X.mg A mf (rtN en))) (hj : j ≤ k) (ha : AJ X Z sp (e :: es) ma A) (hn : nst e = true := by rfl) (hg : Gl X x := by rfl)
    (hpl : (backTo pos (starEach es X.env)).any (·.1) = false := by rfl) (hdb : (x == ("__debug__" : Str)) = false := by decide) : FJ X Z sp (.Call (.Name x fp) (e :: es) [] pos) (ma.bi mf) en := fun F ad σ H Q S hm =>
  call_core am C hj ha hn hg hpl hdb F ad σ H Q S (hm.imp fun r q F' H' v F1 H1 n1 n2 ⟨p, vs, e1, h1, h2, h3, hz, h4⟩ => by
    subst e1
    exact q F' H' p vs (n1.trans n2) (n1.hh.free h1) h2 h3 hz h4)

/-! ### what is walked -/
def ItR (K : Frag) (G F1 : Hp) (en : Enc K β) (ys : List β) (J : It) : Prop := ∀ i F' H', Same F1 F' → Same F' H' → Same G H' →
  (∀ y, ys[i]? = some y → J.go i H' ∧ ∀ x H'', J.yld i H' x H'' → ∃ F'', Nx F' H' F'' H'' ∧ en.rep F'' x y) ∧ (ys.length ≤ i → J.stop i H')
def SJ (X : Cx) (Z : Fz) (sp : Spec X.K) (tg it : Expr) (m : Res (List β)) (en : Enc X.K β) : Prop :=
  ∀ (F : Hp) (ad : List Addr) (σ : Sg) (H : Hp) (R : It → Hp → Prop), SOk Z F ad sp σ H → mwp m (fun ys => ∀ F1 H1 J, Nx F H F1 H1 → ys.length ≤ sizeLine → ItR X.K Z.G F1 en ys J → R J H1) Z.Er → wI X tg it σ H R
/-- a list that stays -/
def StL (K : Frag) (G F : Hp) (p : Addr) (vs : List V) : Prop := F p = some (.lst vs) ∨ SqL K G p vs
theorem StL.sq {K : Frag} {G F F' H' : Hp} {p : Addr} {vs : List V} (h : StL K G F p vs) (s : Same F F') (f : Same F' H') (g : Same G H') : SqL K H' p vs := by
  rcases h with h | h
  · exact SqL.of (f _ _ (s _ _ h))
  · exact sqL_mono g h
theorem StL.mono {K : Frag} {G F F' : Hp} {p : Addr} {vs : List V} (h : StL K G F p vs) (s : Same F F') : StL K G F' p vs := h.imp (fun h => s _ _ h) id
def KJ (X : Cx) (Z : Fz) (sp : Spec X.K) (e : Expr) {α : Type} (m : Res (List α)) (en : Enc X.K α) : Prop :=
  ∀ (F : Hp) (ad : List Addr) (σ : Sg) (H : Hp) (Q : VK), SOk Z F ad sp σ H → mwp m (fun xs => ∀ F' H' p vs, Nx F H F' H' → StL X.K Z.G F' p vs → vs.length ≤ sizeLine → Reps en F' vs xs → Q (.ref p) H') Z.Er → wE X e σ H Q
theorem kj_ej {en : Enc X.K α} {m : Res (List α)} (h : EJ X Z sp e m (eL en)) : KJ X Z sp e m en := fun F ad σ H Q S hm =>
  h F ad σ H Q S (hm.imp fun xs q F' H' v n r => by
    obtain ⟨p, vs, rfl, h2, hz, h3⟩ := r
    exact q F' H' p vs n (.inl h2) hz h3)
theorem kj_fj {en : Enc X.K α} {m : Res (List α)} (h : FJ X Z sp e m en) : KJ X Z sp e m en := kj_ej (ej_fj h)
theorem kj_bor {i : Nat} {x : Str} {en : Enc X.K α} {xs : List α} (hs : sp.sl[i]? = some (.bor en xs) := by rfl) (hN : X.N[i]? = some x := by rfl)
    (hv : Vis X.env.scope x := by first | exact Or.inl rfl | exact Or.inr (Or.inl rfl) | exact Or.inr (Or.inr rfl)) (hd : (x == ("__debug__" : Str)) = false := by decide) (hcd : (x == ("__classdict__" : Str)) = false := by decide) :
    KJ X Z sp (.Name x pos) (.ok xs) en := fun F ad σ H Q S h => by
  refine ofE (pe_var (i := i) hN hv hd hcd) ?_
  obtain ⟨o, h1, p, vs, h2, h3, hz, h4⟩ := S.sl i _ hs
  exact ⟨.ref p, by rw [h1, h2], h F H p vs S.refl (.inr h3) hz h4⟩
theorem lj_kj {en : Enc X.K α} {m : Res (List α)} (h : KJ X Z sp e m en) : LJ X Z sp e m en := fun F ad σ H Q S hm =>
  h F ad σ H Q S (hm.imp fun xs q F' H' p vs n h1 hz h2 => q F' H' p vs n (h1.sq (Same.refl _) n.fh (S.gh.trans n.hh)) hz h2)
theorem getElem?_some_of.{u} {τ : Type u} {l : List τ} {i : Nat} {y : τ} (h : l[i]? = some y) : i < l.length := (List.getElem?_eq_some_iff.mp h).1
variable {tg it : Expr}
theorem sj_list {en : Enc X.K α} {m : Res (List α)} (h : KJ X Z sp it m en) : SJ X Z sp tg it m en := fun F ad σ H R S hm => by
  refine ofI (pi_list pe_w) ?_
  refine h F ad σ H _ S (hm.imp fun xs q F1 H1 p vs n1 h1 hz r1 => ?_)
  refine ⟨p, rfl, ⟨vs, h1.sq (Same.refl _) n1.fh (S.gh.trans n1.hh)⟩, q F1 H1 _ n1 (by rw [← r1.length]; exact hz) fun i F' H' s f g => ?_⟩
  have hq := h1.sq s f g
  refine ⟨fun y hy => ?_, fun hl => ⟨vs, hq, by rw [r1.length]; exact hl⟩⟩
  obtain ⟨v, k1, k2⟩ := r1.get hy
  refine ⟨⟨vs, v, hq, k1⟩, fun x H'' yl => ?_⟩
  obtain ⟨rfl, k3⟩ := yl
  have e : v = x := Option.some.inj (k1.symm.trans (k3 vs hq))
  subst e
  exact ⟨F', ⟨Same.refl _, Same.refl _, f, fun _ h => .inl h⟩, en.mono s k2⟩
/-- 0, 1, .. below n -/
def rangeL (lo hi : Int) : List Int := (List.range (hi - lo).toNat).map fun i => lo + (i : Nat)
theorem rangeL_get {lo hi : Int} {i : Nat} {y : Int} (h : (rangeL lo hi)[i]? = some y) : i < (hi - lo).toNat ∧ y = lo + (i : Nat) := by
  unfold rangeL at h
  rw [List.getElem?_map] at h
  by_cases hi' : i < (hi - lo).toNat
  · rw [List.getElem?_range hi'] at h
    exact ⟨hi', (Option.some.inj h).symm⟩
  · rw [List.getElem?_eq_none (by simpa using hi')] at h
    cases h
theorem rangeL_length (lo hi : Int) : (rangeL lo hi).length = (hi - lo).toNat := by simp [rangeL]
theorem itr_ok {K : Frag} {G F1 : Hp} {lo hi : Int} {n : Nat} (hn : n = (hi - lo).toNat) : ItR K G F1 (eI : Enc K Int) (rangeL lo hi) (Itr lo n) := fun i F' H' s f g => by
  refine ⟨fun y hy => ?_, fun hl => ?_⟩
  · obtain ⟨h1, h2⟩ := rangeL_get hy
    refine ⟨by show i < n; omega, fun x H'' yl => ?_⟩
    obtain ⟨rfl, rfl⟩ := yl
    exact ⟨F', ⟨Same.refl _, Same.refl _, f, fun _ h => .inl h⟩, by rw [h2]; rfl⟩
  · rw [rangeL_length] at hl
    show n ≤ i
    omega
def rng1 (j : Int) : Res (List Int) := gd (-(2 ^ 62) ≤ j ∧ j ≤ 16777216) (rangeL 0 j)
def rng2 (i j : Int) : Res (List Int) := gd (-(2 ^ 62) ≤ i ∧ i < 2 ^ 62 ∧ -(2 ^ 62) ≤ j ∧ j < 2 ^ 62 ∧ j - i ≤ 16777216) (rangeL i j)
theorem sj_range1 {m : Res Int} (hm : X.mg "range" = none) (h : EJ X Z sp a m eI) (hg : Gl X "range" := by rfl) (hn : nst a = true := by rfl) : SJ X Z sp tg (.Call (.Name "range" fp) [a] [] pos) (m.bi rng1) eI := fun F ad σ H R S hq => by
  refine ofI (pi_range1 hg hm (pa_cons pe_w pa_nil (star_cons hn)) (star_cons hn)) ?_
  refine h F ad σ H _ S (hq.bi.imp fun j q F1 H1 v n1 r1 => ?_)
  obtain ⟨⟨c1, c2⟩, q⟩ := q.gd
  have r1 : v = .int j := r1
  subst r1
  refine ⟨j, rfl, c1, by omega, q F1 H1 _ n1 ?_ (itr_ok (by omega))⟩
  rw [rangeL_length, sizeLine_eq]
  omega
theorem sj_range2 {ma mb : Res Int} (hm : X.mg "range" = none) (ha : EJ X Z sp a ma eI) (hb : EJ X Z sp b mb eI) (hg : Gl X "range" := by rfl) (hn : nst a = true := by rfl) (hn2 : nst b = true := by rfl) : SJ X Z sp tg (.Call (.Name "range" fp) [a, b] [] pos) (ma.bi fun i => mb.bi fun j => rng2 i j) eI := fun F ad σ H R S hq => by
  refine ofI (pi_range2 hg hm (pa_cons pe_w (pa_cons pe_w pa_nil (star_cons hn2)) (star_cons hn)) (by rw [star_cons hn, star_cons hn2]; rfl) (by rw [star_cons hn2]; rfl)) ?_
  refine ha F ad σ H _ S (hq.bi.imp fun i q F1 H1 v n1 r1 => ?_)
  refine hb F1 ad σ H1 _ (S.nx n1) (q.bi.imp fun j q F2 H2 u n2 r2 => ?_)
  obtain ⟨⟨c1, c2, c3, c4, c5⟩, q⟩ := q.gd
  have r1 : v = .int i := r1
  have r2 : u = .int j := r2
  subst r1 r2
  refine ⟨i, j, rfl, ⟨c1, c2, c3, c4⟩, q F2 H2 _ (n1.trans n2) ?_ (itr_ok rfl)⟩
  rw [rangeL_length, sizeLine_eq]
  omega
theorem sj_range1_p {n : Int} (hm : X.mg "range" = none) (h : EJ X Z sp a (.ok n) eI) (hg : Gl X "range" := by rfl) (hn : nst a = true := by rfl) : SJ X Z sp tg (.Call (.Name "range" fp) [a] [] pos) (rng1 n) eI := sj_range1 hm h hg hn
theorem sj_range2_p {n m : Int} (hm : X.mg "range" = none) (ha : EJ X Z sp a (.ok n) eI) (hb : EJ X Z sp b (.ok m) eI) (hg : Gl X "range" := by rfl) (hn : nst a = true := by rfl) (hn2 : nst b = true := by rfl) : SJ X Z sp tg (.Call (.Name "range" fp) [a, b] [] pos) (rng2 n m) eI := sj_range2 hm ha hb hg hn hn2
variable {elts : List Expr} {kk : Nat} {tpos : Pos}
theorem sj_zip {ea : Enc X.K α} {eb : Enc X.K β} {ma : Res (List α)} {mb : Res (List β)} (hm : X.mg "zip" = none) (ha : KJ X Z sp a ma ea) (hb : KJ X Z sp b mb eb) (hg : Gl X "zip" := by rfl) (hn : nst a = true := by rfl) (hn2 : nst b = true := by rfl) :
    SJ X Z sp (.Tuple elts kk tpos) (.Call (.Name "zip" fp) [a, b] [] pos) (ma.bi fun xs => mb.bi fun ys => .ok (xs.zip ys)) (eT (vsC ea (vs1 eb))) := fun F ad σ H R S hq => by
  refine ofI (pi_zip hg hm (pa_cons pe_w (pa_cons pe_w pa_nil (star_cons hn2)) (star_cons hn)) (star_cons hn) (by rw [star_cons hn2]; rfl)) ?_
  refine ha F ad σ H _ S (hq.bi.imp fun xs q F1 H1 p vs n1 h1 hz r1 => ?_)
  refine hb F1 ad σ H1 _ (S.nx n1) (q.bi.imp fun ys q F2 H2 p2 ws n2 h2 hz2 r2 => ?_)
  have n := n1.trans n2
  have h1 := h1.mono n2.ff
  have r1 := r1.mono n2.ff
  have g2 := S.gh.trans n.hh
  refine ⟨p, p2, vs, ws, rfl, h1.sq (Same.refl _) n.fh g2, h2.sq (Same.refl _) n.fh g2, q F2 H2 _ n ?_ fun i F' H' s f g => ?_⟩
  · rw [List.length_zip, ← r1.length]
    exact Nat.le_trans (Nat.min_le_left _ _) hz
  · have k1 := h1.sq s f g
    have k2 := h2.sq s f g
    refine ⟨fun y hy => ?_, fun hl => ⟨vs, ws, k1, k2, ?_⟩⟩
    · rw [List.getElem?_zip_eq_some] at hy
      obtain ⟨v1, g1, g2⟩ := r1.get hy.1
      obtain ⟨v2, g3, g4⟩ := r2.get hy.2
      refine ⟨⟨vs, ws, v1, v2, k1, k2, g1, g3⟩, fun x H'' yl => ?_⟩
      obtain ⟨T, x1, x2, rfl, hT, rfl, e1, e2⟩ := yl
      have q1 : v1 = x1 := Option.some.inj (g1.symm.trans (e1 _ k1))
      have q2 : v2 = x2 := Option.some.inj (g3.symm.trans (e2 _ k2))
      subst q1 q2
      have nn : Nx F' H' F' H' := ⟨Same.refl _, Same.refl _, f, fun _ h => .inl h⟩
      have hF : F' T = none := f.free hT
      refine ⟨upd F' T (.tup [v1, v2]), (nn.new hT).fix hT hF upd_same, T, [v1, v2], rfl, upd_same, v1, [v2], rfl, ea.mono (s.trans (same_upd hF)) g2, v2, rfl, eb.mono (s.trans (same_upd hF)) g4⟩
    · rw [List.length_zip] at hl
      rw [r1.length, r2.length]
      omega
/-- each item with its place -/
def enumL (xs : List α) : List (Int × α) := xs.zipIdx.map fun p => ((p.2 : Nat), p.1)
theorem enumL_get {xs : List α} {i : Nat} {y : Int × α} (h : (enumL xs)[i]? = some y) : y.1 = (i : Nat) ∧ xs[i]? = some y.2 := by
  unfold enumL at h
  rw [List.getElem?_map, List.getElem?_zipIdx] at h
  cases e : xs[i]? with
  | none => rw [e] at h; cases h
  | some x =>
    rw [e] at h
    have q : (((0 + i : Nat) : Int), x) = y := Option.some.inj h
    subst q
    exact ⟨by simp, rfl⟩
theorem enumL_length (xs : List α) : (enumL xs).length = xs.length := by simp [enumL]
theorem sj_enum {ea : Enc X.K α} {ma : Res (List α)} (hm : X.mg "enumerate" = none) (ha : KJ X Z sp a ma ea) (hg : Gl X "enumerate" := by rfl) (hn : nst a = true := by rfl) :
    SJ X Z sp (.Tuple elts kk tpos) (.Call (.Name "enumerate" fp) [a] [] pos) (ma.bi fun xs => .ok (enumL xs)) (eT (vsC eI (vs1 ea))) := fun F ad σ H R S hq => by
  refine ofI (pi_enum hg hm (pa_cons pe_w pa_nil (star_cons hn)) (star_cons hn)) ?_
  refine ha F ad σ H _ S (hq.bi.imp fun xs q F1 H1 p vs n1 h1 hz r1 => ?_)
  have g2 := S.gh.trans n1.hh
  refine ⟨p, vs, rfl, h1.sq (Same.refl _) n1.fh g2, q F1 H1 _ n1 ?_ fun i F' H' s f g => ?_⟩
  · rw [enumL_length, ← r1.length]
    exact hz
  · have k1 := h1.sq s f g
    refine ⟨fun y hy => ?_, fun hl => ⟨vs, k1, ?_⟩⟩
    · obtain ⟨y1, y2⟩ := enumL_get hy
      obtain ⟨v1, g1, g2⟩ := r1.get y2
      refine ⟨⟨vs, v1, k1, g1⟩, fun x H'' yl => ?_⟩
      obtain ⟨T, x1, rfl, hT, rfl, e1⟩ := yl
      have q1 : v1 = x1 := Option.some.inj (g1.symm.trans (e1 _ k1))
      subst q1
      have nn : Nx F' H' F' H' := ⟨Same.refl _, Same.refl _, f, fun _ h => .inl h⟩
      have hF : F' T = none := f.free hT
      refine ⟨upd F' T (.tup [.int (i : Nat), v1]), (nn.new hT).fix hT hF upd_same, T, [.int (i : Nat), v1], rfl, upd_same, .int (i : Nat), [v1], rfl, by rw [y1]; rfl, v1, rfl, ea.mono (s.trans (same_upd hF)) g2⟩
    · rw [enumL_length] at hl
      rw [r1.length]
      exact hl
theorem sj_zip_p {ea : Enc X.K α} {eb : Enc X.K β} {xs : List α} {ys : List β} (hm : X.mg "zip" = none) (ha : KJ X Z sp a (.ok xs) ea) (hb : KJ X Z sp b (.ok ys) eb) (hg : Gl X "zip" := by rfl) (hn : nst a = true := by rfl) (hn2 : nst b = true := by rfl) :
    SJ X Z sp (.Tuple elts kk tpos) (.Call (.Name "zip" fp) [a, b] [] pos) (.ok (xs.zip ys)) (eT (vsC ea (vs1 eb))) := sj_zip hm ha hb hg hn hn2
theorem sj_enum_p {ea : Enc X.K α} {xs : List α} (hm : X.mg "enumerate" = none) (ha : KJ X Z sp a (.ok xs) ea) (hg : Gl X "enumerate" := by rfl) (hn : nst a = true := by rfl) :
    SJ X Z sp (.Tuple elts kk tpos) (.Call (.Name "enumerate" fp) [a] [] pos) (.ok (enumL xs)) (eT (vsC eI (vs1 ea))) := sj_enum hm ha hg hn

/-! ### where it goes -/
/-- a target: the value of a kind goes into the slots is -/
def GJ (X : Cx) (tg : Expr) (en : Enc X.K β) (is : List Nat) (bd : β → List (Sl X.K) → List (Sl X.K)) : Prop :=
  ∀ (Z : Fz) (F : Hp) (ad : List Addr) (sp : Spec X.K) (σ : Sg) (H : Hp) (x : V) (y : β) (Q : Sg → Hp → Prop), SOk Z F ad sp σ H → en.rep F x y →
    (∀ σ', SOk Z F ad ⟨bd y sp.sl, sp.ob⟩ σ' H → σ'.length = σ.length → (∀ i, i ∉ is → σ'[i]? = σ[i]?) → Q σ' H) → wG X tg x σ H Q
def GsJ (X : Cx) (ts : List Expr) (r : VsE X.K γ) (is : List Nat) (bd : γ → List (Sl X.K) → List (Sl X.K)) : Prop :=
  ∃ t : TGs, PGs X ts t ∧ ∀ (Z : Fz) (F : Hp) (ad : List Addr) (sp : Spec X.K) (σ : Sg) (H : Hp) (vs : List V) (g : γ) (Q : Sg → Hp → Prop), SOk Z F ad sp σ H → r.rep F vs g →
    (∀ σ', SOk Z F ad ⟨bd g sp.sl, sp.ob⟩ σ' H → σ'.length = σ.length → (∀ i, i ∉ is → σ'[i]? = σ[i]?) → Q σ' H) → t vs σ H Q
theorem SOk.set {F H : Hp} {ad : List Addr} {σ : Sg} {i : Nat} {s : Sl X.K} {v : V} (S : SOk Z F ad sp σ H) (h : slOk Z.G F ad s (some v)) : SOk Z F ad ⟨sp.sl.set i s, sp.ob⟩ (σ.set i (some v)) H := by
  refine ⟨S.f0, S.fh, S.gh, S.fg, S.nd, S.st, by simp [S.len], fun j t e => ?_, S.olen, S.ob, S.lf⟩
  by_cases hj : j = i
  · subst hj
    have hl : j < sp.sl.length := by
      have := getElem?_some_of e
      simpa using this
    have e : (sp.sl.set j s)[j]? = some t := e
    rw [List.getElem?_set_self hl] at e
    cases e
    exact ⟨some v, by rw [List.getElem?_set_self (by rw [← S.len]; exact hl)], h⟩
  · have e : (sp.sl.set i s)[j]? = some t := e
    rw [List.getElem?_set_ne (Ne.symm hj)] at e
    obtain ⟨o, h1, h2⟩ := S.sl j t e
    exact ⟨o, by rw [List.getElem?_set_ne (Ne.symm hj)]; exact h1, h2⟩
theorem gj_name {i : Nat} {x : Str} {en : Enc X.K β} (hN : X.N.Nodup) (hi : X.N[i]? = some x := by rfl) (hx : Loc X.env.scope x := by first | exact Or.inl rfl | exact Or.inr rfl)
    (hf : X.fn x = true ∨ X.env.scope.names.lookup x = some .local := by first | exact .inl rfl | exact .inr rfl) : GJ X (.Name x pos) en [i] (fun y sl => sl.set i (.val en y)) := fun Z F ad sp σ H v y Q S r q =>
  ofG (pg_name hN hi hx hf) (q _ (S.set ⟨v, rfl, r⟩) (by simp) fun j hj => by
    rw [List.getElem?_set_ne (by intro e; exact hj (by simp [e]))])
theorem gsj_one {tg : Expr} {en : Enc X.K β} {is : List Nat} {bd : β → List (Sl X.K) → List (Sl X.K)} (h : GJ X tg en is bd) (hs : (assignEach [tg] X.env).map (·.2) = [assign tg X.env] := by rfl) : GsJ X [tg] (vs1 en) is bd :=
  ⟨gCons (wG X tg) gNil, pgs_cons pg_w pgs_nil hs, fun Z F ad sp σ H vs g Q S r q => by
    obtain ⟨v, rfl, r⟩ := r
    exact ⟨v, [], rfl, h Z F ad sp σ H v g _ S r fun σ' S' h1 h2 => ⟨rfl, q σ' S' h1 h2⟩⟩⟩
theorem gsj_cons {tg : Expr} {ts : List Expr} {en : Enc X.K β} {r : VsE X.K γ} {is js : List Nat} {bd : β → List (Sl X.K) → List (Sl X.K)} {bd' : γ → List (Sl X.K) → List (Sl X.K)} (h : GJ X tg en is bd) (h2 : GsJ X ts r js bd')
    (hs : (assignEach (tg :: ts) X.env).map (·.2) = assign tg X.env :: (assignEach ts X.env).map (·.2) := by rfl) : GsJ X (tg :: ts) (vsC en r) (is ++ js) (fun g sl => bd' g.2 (bd g.1 sl)) := by
  obtain ⟨t, pt, ht⟩ := h2
  refine ⟨gCons (wG X tg) t, pgs_cons pg_w pt hs, fun Z F ad sp σ H vs g Q S rr q => ?_⟩
  obtain ⟨v, ws, rfl, r1, r2⟩ := rr
  refine ⟨v, ws, rfl, h Z F ad sp σ H v g.1 _ S r1 fun σ' S' k1 k2 => ?_⟩
  refine ht Z F ad _ σ' H ws g.2 Q S' r2 fun σ2 S2 k3 k4 => q σ2 S2 (k3.trans k1) fun i hi => ?_
  rw [k4 i fun z => hi (List.mem_append_right _ z), k2 i fun z => hi (List.mem_append_left _ z)]
theorem gj_tup {ts : List Expr} {n : Nat} {r : VsE X.K γ} {is : List Nat} {bd : γ → List (Sl X.K) → List (Sl X.K)} (hc : X.calm = true) (h : GsJ X ts r is bd) (hlen : ∀ F vs g, r.rep F vs g → vs.length = n) (hn : (assignEach ts X.env).length = n := by rfl) (hst : (assignEach ts X.env).findIdx? (·.1) = none := by rfl) :
    GJ X (.Tuple ts kk tpos) (eT r) is bd := fun Z F ad sp σ H x g Q S rr q => by
  obtain ⟨t, pt, ht⟩ := h
  refine ofG (pg_tup (n := n) hc pt hn hst) ?_
  obtain ⟨p, vs, rfl, h1, h2⟩ := rr
  exact ⟨p, vs, rfl, SqT.of (S.fh _ _ h1), hlen F vs g h2, ht Z F ad sp σ H vs g Q S h2 q⟩
theorem len1 {K : Frag} {e : Enc K α} : ∀ F vs g, (vs1 e).rep F vs g → vs.length = 1 := fun F vs g ⟨v, h, _⟩ => by rw [h]; rfl
theorem lenC {K : Frag} {e : Enc K α} {r : VsE K γ} {n : Nat} (h : ∀ F vs g, r.rep F vs g → vs.length = n) : ∀ F vs g, (vsC e r).rep F vs g → vs.length = n + 1 := fun F vs g ⟨v, ws, e, _, h2⟩ => by rw [e, List.length_cons, h F ws g.2 h2]
end
end Wk

set_option Elab.async false
set_option linter.all false
set_option maxRecDepth 100000
set_option maxHeartbeats 4000000
namespace Wk
open PySem PySem.Spec PyProof.Rows L2
section
variable {X : Cx} {Z : Fz} {sp : Spec X.K} {a b c e : Expr} {es : List Expr} {pos p p2 fp : Pos} {α β γ ρ : Type} {k j : Nat} {x : Str} {F F' H H' : Hp} {ad : List Addr} {σ : Sg} {t : Option Addr}
/-! ### the state, on its way -/
theorem SOk.er {Er : Str → Prop} (S : SOk Z F ad sp σ H) : SOk { Z with Er := Er } F ad sp σ H := ⟨S.f0, S.fh, S.gh, S.fg, S.nd, S.st, S.len, S.sl, S.olen, S.ob, S.lf⟩
theorem SOk.rer {Er : Str → Prop} (S : SOk { Z with Er := Er } F ad sp σ H) : SOk Z F ad sp σ H := ⟨S.f0, S.fh, S.gh, S.fg, S.nd, S.st, S.len, S.sl, S.olen, S.ob, S.lf⟩
theorem slOk.push {K : Frag} {G F : Hp} {ad : List Addr} {s : Sl K} {o : Option V} (q : Addr) (h : slOk G F ad s o) : slOk G F (ad ++ [q]) s o := by
  cases s with
  | any => trivial
  | val e a => exact h
  | bor e xs => exact h
  | own k =>
    obtain ⟨p, h1, h2⟩ := h
    exact ⟨p, by rw [List.getElem?_append_left (getElem?_some_of h1)]; exact h1, h2⟩
/-- a new list of ours -/
theorem SOk.push {en : Enc X.K α} {xs : List α} {q : Addr} {vs : List V} (S : SOk Z F ad sp σ H) (n : Nx F H F' H') (hq : H q = none) (hF : F' q = none) (hH : H' q = some (.lst vs)) (hz : vs.length ≤ sizeLine) (r : Reps en F' vs xs) : SOk Z F' (ad ++ [q]) ⟨sp.sl, sp.ob ++ [.lst none en xs]⟩ σ H' := by
  have S' := S.nx n
  have hn : q ∉ ad := fun z => S.st q z hq
  refine ⟨S'.f0, S'.fh, S'.gh, S'.fg, ?_, fun a ha => ?_, S'.len, fun i s h => ?_, ?_, fun k o h => ?_, S.lf.push n hq S.olen fun _ _ _ _ z => nomatch z⟩
  · rw [List.nodup_append]
    exact ⟨S.nd, by simp, fun a ha b hb e => hn (by simp at hb; rw [← hb, ← e]; exact ha)⟩
  · rcases List.mem_append.mp ha with ha | ha
    · exact S'.st a ha
    · simp at ha
      rw [ha, hH]
      exact fun z => nomatch z
  · obtain ⟨o, h1, h2⟩ := S'.sl i s h
    exact ⟨o, h1, h2.push q⟩
  · simp [S.olen]
  · by_cases hk : k < sp.ob.length
    · have h : (sp.ob ++ [.lst none en xs])[k]? = some o := h
      rw [List.getElem?_append_left hk] at h
      obtain ⟨p, h1, h2⟩ := S'.ob k o h
      exact ⟨p, by rw [List.getElem?_append_left (getElem?_some_of h1)]; exact h1, h2⟩
    · have h : (sp.ob ++ [.lst none en xs])[k]? = some o := h
      have hl := getElem?_some_of h
      have e : k = sp.ob.length := by simp at hl; omega
      subst e
      simp at h
      subst h
      refine ⟨q, by rw [S.olen]; simp, vs, hH, hz, r, hF, ?_, fun q z => nomatch z⟩
      exact S.gh.free hq
/-- a list of ours is changed -/
theorem SOk.upd {en : Enc X.K α} {xs : List α} {vs : List V} {q : Addr} {i : Nat} (S : SOk Z F ad sp σ H) (hk : ad[i]? = some q) (ht : ∀ q', t = some q' → q = q') (hq : ∃ us, H q = some (.lst us)) (hF : F q = none) (hG : Z.G q = none) (hz : vs.length ≤ sizeLine) (r : Reps en F vs xs) : SOk Z F ad ⟨sp.sl, sp.ob.set i (.lst t en xs)⟩ σ (upd H q (.lst vs)) := by
  obtain ⟨us, hus⟩ := hq
  refine ⟨S.f0, fun b o h => ?_, fun b o h => ?_, S.fg, S.nd, fun a ha z => ?_, S.len, S.sl, by simp [S.olen], fun k o h => ?_, S.lf.set hk S.nd (Same.refl _) (fun _ _ z => z) (fun a ha => upd_ne ha) fun _ _ _ _ z => nomatch z⟩
  · rw [upd_ne (ne_of_none h hF)]
    exact S.fh b o h
  · rw [upd_ne (ne_of_none h hG)]
    exact S.gh b o h
  · by_cases e : a = q
    · subst e
      rw [upd_same] at z
      cases z
    · rw [upd_ne e] at z
      exact S.st a ha z
  · have h : (sp.ob.set i (.lst t en xs))[k]? = some o := h
    by_cases e : k = i
    · subst e
      have hl := getElem?_some_of h
      rw [List.getElem?_set_self (by simpa using hl)] at h
      cases h
      exact ⟨q, hk, vs, upd_same, hz, r, hF, hG, ht⟩
    · rw [List.getElem?_set_ne (Ne.symm e)] at h
      obtain ⟨p, h1, h2⟩ := S.ob k o h
      refine ⟨p, h1, ?_⟩
      have hp : p ≠ q := fun z => by
        subst z
        have l1 := getElem?_some_of h1
        have l2 := getElem?_some_of hk
        rw [List.getElem?_eq_getElem l1] at h1
        rw [List.getElem?_eq_getElem l2] at hk
        exact e ((List.getElem_inj S.nd).mp ((Option.some.inj h1).trans (Option.some.inj hk).symm))
      cases o with
      | dead => trivial
      | pk t' e' ys => trivial
      | gen t' e' ys =>
        obtain ⟨ws, g1, g2⟩ := h2
        exact ⟨ws, by rw [upd_ne hp]; exact g1, g2⟩
      | lst t' e' ys =>
        obtain ⟨ws, g1, g2⟩ := h2
        exact ⟨ws, by rw [upd_ne hp]; exact g1, g2⟩
/-- one's own list, at a name -/
theorem SOk.own {en : Enc X.K α} {xs : List α} {i k : Nat} (S : SOk Z F ad sp σ H) (hs : sp.sl[i]? = some (.own k)) (ho : sp.ob[k]? = some (.lst t en xs)) : ∃ q vs, σ[i]? = some (some (.ref q)) ∧ ad[k]? = some q ∧ H q = some (.lst vs) ∧ vs.length ≤ sizeLine ∧ Reps en F vs xs ∧ F q = none ∧ Z.G q = none ∧ ∀ q', t = some q' → q = q' := by
  obtain ⟨o, h1, q, h2, h3⟩ := S.sl i _ hs
  obtain ⟨q', h4, vs, h5, hz, h6, h7, h8⟩ := S.ob k _ ho
  rw [h2] at h4
  have e : q = q' := Option.some.inj h4
  subst e
  exact ⟨q, vs, by rw [h1, h3], h2, h5, hz, h6, h7, h8⟩

/-! ### blocks -/
def BJ (X : Cx) (Z : Fz) {ρ : Type} (Qr : ρ → Prop) (D : Ends) (sp : Spec X.K) (st : List Stmt) (m : Res ρ) : Prop :=
  ∀ (F : Hp) (ad : List Addr) (σ : Sg) (H : Hp), SOk Z F ad sp σ H → mwp m Qr Z.Er → wB X st D σ H
/-- what holds at a place from where it goes on as k says -/
def NX (X : Cx) (Z : Fz) {ρ S : Type} (Qr : ρ → Prop) (nxt : Sg → Hp → Prop) (sps : S → Spec X.K) (k : S → Res ρ) : Prop :=
  ∀ (s : S) (F : Hp) (ad : List Addr) (σ : Sg) (H : Hp), SOk Z F ad (sps s) σ H → mwp (k s) Qr Z.Er → nxt σ H
variable {Qr : ρ → Prop} {D : Ends} {st : Stmt} {rest body : List Stmt} {m : Res ρ} {S : Type}
theorem seq (h : wS X st { D with nx := wB X rest D } σ H) : wB X (st :: rest) D σ H := ofB (pss_cons ps_w pb_w) h
theorem bj_nil {sps : S → Spec X.K} {kk : S → Res ρ} (hn : NX X Z Qr D.nx sps kk) (s : S) : BJ X Z Qr D (sps s) [] (kk s) := fun F ad σ H S' hm => ofB pss_nil (hn s F ad σ H S' hm)
theorem bj_cont {sps : S → Spec X.K} {kk : S → Res ρ} (hn : NX X Z Qr D.ct sps kk) (s : S) : BJ X Z Qr D (sps s) (.Continue pos :: rest) (kk s) := fun F ad σ H S' hm => seq (ofS ps_continue (hn s F ad σ H S' hm))
theorem bj_brk {sps : S → Spec X.K} {kk : S → Res ρ} (hn : NX X Z Qr D.bk sps kk) (s : S) : BJ X Z Qr D (sps s) (.Break pos :: rest) (kk s) := fun F ad σ H S' hm => seq (ofS ps_break (hn s F ad σ H S' hm))
theorem bj_pass (h : BJ X Z Qr D sp rest m) : BJ X Z Qr D sp (.Pass pos :: rest) m := fun F ad σ H S hm => seq (ofS ps_pass (h F ad σ H S hm))
theorem bj_doc {z : Str} {jj : Nat} (h : BJ X Z Qr D sp rest m) : BJ X Z Qr D sp (.Expr (.Constant (.str z) jj p) pos :: rest) m := fun F ad σ H S hm => seq (ofS ps_doc (h F ad σ H S hm))
/-- forgetting -/
structure Le {K : Frag} (sp sp' : Spec K) (ks : List Nat) : Prop where
  go : ∀ (Z : Fz) (F : Hp) (ad : List Addr) (σ : Sg) (H : Hp), SOk Z F ad sp σ H → ∃ ad', SOk Z F ad' sp' σ H
theorem bj_weak {sp' : Spec X.K} {ks : List Nat} (le : Le sp sp' ks) (h : BJ X Z Qr D sp' body m) : BJ X Z Qr D sp body m := fun F ad σ H S hm => by
  obtain ⟨ad', S'⟩ := le.go Z F ad σ H S
  exact h F ad' σ H S' hm
inductive LeS {K : Frag} (ks : List Nat) : Sl K → Sl K → Prop
  | any {s : Sl K} : LeS ks s .any
  | val {α : Type} {e : Enc K α} {a : α} : LeS ks (.val e a) (.val e a)
  | bor {α : Type} {e : Enc K α} {a : List α} : LeS ks (.bor e a) (.bor e a)
  | own {k k' : Nat} (h : ks[k']? = some k) : LeS ks (.own k) (.own k')
inductive LeSs {K : Frag} (ks : List Nat) : List (Sl K) → List (Sl K) → Prop
  | nil : LeSs ks [] []
  | cons {s s' : Sl K} {l l' : List (Sl K)} : LeS ks s s' → LeSs ks l l' → LeSs ks (s :: l) (s' :: l')
theorem LeSs.len {K : Frag} {ks : List Nat} : ∀ {l l' : List (Sl K)}, LeSs ks l l' → l.length = l'.length
  | _, _, .nil => rfl
  | _, _, .cons _ t => by rw [List.length_cons, List.length_cons, LeSs.len t]
theorem LeSs.get {K : Frag} {ks : List Nat} : ∀ {l l' : List (Sl K)} {i : Nat} {s' : Sl K}, LeSs ks l l' → l'[i]? = some s' → ∃ s, l[i]? = some s ∧ LeS ks s s'
  | _, _, _, _, .nil, h => by simp at h
  | _, _, 0, _, .cons r _, h => by
    simp at h; subst h; exact ⟨_, rfl, r⟩
  | _, _, i + 1, _, .cons _ t, h => by
    obtain ⟨s, h1, h2⟩ := LeSs.get (i := i) t (by simpa using h)
    exact ⟨s, by simpa using h1, h2⟩
/-- the objects kept: the ks -/
inductive LeO {K : Frag} (ob : List (Ob K)) : List Nat → List (Ob K) → Prop
  | nil : LeO ob [] []
  | keep {k : Nat} {ks : List Nat} {o : Ob K} {os : List (Ob K)} (h : ob[k]? = some o) : LeO ob ks os → LeO ob (k :: ks) (o :: os)
theorem LeO.len {K : Frag} {ob : List (Ob K)} : ∀ {ks : List Nat} {os : List (Ob K)}, LeO ob ks os → ks.length = os.length
  | _, _, .nil => rfl
  | _, _, .keep _ t => by rw [List.length_cons, List.length_cons, LeO.len t]
theorem LeO.get {K : Frag} {ob : List (Ob K)} : ∀ {ks : List Nat} {os : List (Ob K)} {i : Nat} {o : Ob K}, LeO ob ks os → os[i]? = some o → ∃ k, ks[i]? = some k ∧ ob[k]? = some o
  | _, _, _, _, .nil, h => by simp at h
  | _, _, 0, _, .keep r _, h => by
    simp at h; subst h; exact ⟨_, rfl, r⟩
  | _, _, i + 1, _, .keep _ t, h => by
    obtain ⟨s, h1, h2⟩ := LeO.get (i := i) t (by simpa using h)
    exact ⟨s, by simpa using h1, h2⟩
theorem LeO.lt {K : Frag} {ob : List (Ob K)} {ks : List Nat} {os : List (Ob K)} (h : LeO ob ks os) {k : Nat} (hk : k ∈ ks) : k < ob.length := by
  induction h with
  | nil => cases hk
  | keep r t ih =>
    rcases List.mem_cons.mp hk with e | hk
    · rw [e]; exact getElem?_some_of r
    · exact ih hk
theorem Lf.sub {K : Frag} {G F H : Hp} {ad : List Addr} {ob os : List (Ob K)} {ks : List Nat} (hn : ks.Nodup) (hl : ob.length = ad.length) (ho : LeO ob ks os) (h : Lf G F H ad ob) : Lf G F H (ks.map fun k => ad.getD k 0) os := by
  obtain ⟨L, h⟩ := h
  have hk : ∀ k ∈ ks, k < ad.length := fun k hk => by rw [← hl]; exact ho.lt hk
  have hg : ∀ k, k < ad.length → ad[k]? = some (ad.getD k 0) := fun k hk => by
    rw [List.getD_eq_getElem?_getD, List.getElem?_eq_getElem hk]
    rfl
  let L' : Nat → List Addr := fun i => match ks[i]? with
    | some k => L k
    | none => []
  have hL : ∀ {i q}, q ∈ L' i → ∃ k, ks[i]? = some k ∧ q ∈ L k := fun {i q} hq => by
    have hq : q ∈ (match ks[i]? with
      | some k => L k
      | none => []) := hq
    cases e : ks[i]? with
    | none => rw [e] at hq; cases hq
    | some k => rw [e] at hq; exact ⟨k, rfl, hq⟩
  refine ⟨L', fun i q hq => ?_, fun i q hq i' hq' => ?_, fun i => ?_, fun i α t e xss hi => ?_⟩
  · obtain ⟨k, e, hq⟩ := hL hq
    obtain ⟨a, b⟩ := h.di k q hq
    refine ⟨fun z => a ?_, b⟩
    obtain ⟨k', h3, rfl⟩ := List.mem_map.mp z
    exact List.mem_of_getElem? (hg k' (hk k' h3))
  · obtain ⟨k, e, hq⟩ := hL hq
    obtain ⟨k', e', hq'⟩ := hL hq'
    have ek := h.un k q hq k' hq'
    subst ek
    have l1 := getElem?_some_of e
    have l2 := getElem?_some_of e'
    rw [List.getElem?_eq_getElem l1] at e
    rw [List.getElem?_eq_getElem l2] at e'
    exact (List.getElem_inj hn).mp ((Option.some.inj e').trans (Option.some.inj e).symm)
  · show (match ks[i]? with
      | some k => L k
      | none => []).Nodup
    split
    · exact h.nd _
    · exact List.nodup_nil
  · obtain ⟨k, e, hob⟩ := ho.get hi
    obtain ⟨p, hp, r⟩ := h.ok k α t _ xss hob
    refine ⟨p, ?_, ?_⟩
    · rw [List.getElem?_map, e, ← hp, hg k (hk k (List.mem_of_getElem? e))]
      rfl
    · show pkOk G F H t _ (match ks[i]? with
        | some k => L k
        | none => []) xss p
      rw [e]
      exact r
theorem le_mk {K : Frag} {sp sp' : Spec K} {ks : List Nat} (h1 : LeSs ks sp.sl sp'.sl) (h2 : LeO sp.ob ks sp'.ob) (hn : ks.Nodup := by decide) : Le sp sp' ks := ⟨fun Z F ad σ H S => by
  have hk : ∀ k ∈ ks, k < ad.length := fun k hk => by rw [← S.olen]; exact h2.lt hk
  have hg : ∀ {i k : Nat}, ks[i]? = some k → (ks.map fun k => ad.getD k 0)[i]? = ad[k]? := fun {i k} h => by
    rw [List.getElem?_map, h]
    have := hk k (List.mem_of_getElem? h)
    show some (ad.getD k 0) = ad[k]?
    rw [List.getD_eq_getElem?_getD, List.getElem?_eq_getElem this]
    rfl
  refine ⟨ks.map fun k => ad.getD k 0, S.f0, S.fh, S.gh, S.fg, ?_, fun a ha => ?_, by rw [← h1.len]; exact S.len, fun i s' h => ?_, by rw [List.length_map, h2.len], fun i o h => ?_, S.lf.sub hn S.olen h2⟩
  · refine List.pairwise_iff_getElem.mpr fun i j hi hj hij e => ?_
    simp only [List.length_map] at hi hj
    simp only [List.getElem_map] at e
    have l1 := hk _ (List.getElem_mem hi)
    have l2 := hk _ (List.getElem_mem hj)
    rw [List.getD_eq_getElem?_getD, List.getD_eq_getElem?_getD, List.getElem?_eq_getElem l1, List.getElem?_eq_getElem l2] at e
    have e2 : ks[i] = ks[j] := (List.getElem_inj S.nd).mp e
    exact absurd ((List.getElem_inj hn).mp e2) (Nat.ne_of_lt hij)
  · obtain ⟨k, h3, rfl⟩ := List.mem_map.mp ha
    have l1 := hk k h3
    rw [List.getD_eq_getElem?_getD, List.getElem?_eq_getElem l1]
    exact S.st _ (List.getElem_mem l1)
  · obtain ⟨s, g1, g2⟩ := h1.get h
    obtain ⟨o, g3, g4⟩ := S.sl i s g1
    refine ⟨o, g3, ?_⟩
    cases g2 with
    | any => trivial
    | val => exact g4
    | bor => exact g4
    | own h5 =>
      obtain ⟨p, g5, g6⟩ := g4
      exact ⟨p, by rw [hg h5]; exact g5, g6⟩
  · obtain ⟨k, g1, g2⟩ := h2.get h
    obtain ⟨p, g3, g4⟩ := S.ob k o g2
    exact ⟨p, by rw [hg g1]; exact g3, g4⟩⟩
/-! ### return -/
/-- what a return hands back is what is wanted -/
def RT (Z : Fz) {ρ : Type} (R : RtE ρ) (Qr : ρ → Prop) (rt : VK) : Prop := ∀ (r : ρ) (F' H' : Hp) (v : V), Same Z.F0 F' → Same F' H' → Same Z.G H' → (∀ a, F' a ≠ none → Z.F0 a ≠ none ∨ Z.G a = none) → R Z.G F' H' v r → Qr r → rt v H'
theorem bj_ret {en : Enc X.K ρ} (hR : RT Z (rtV en) Qr D.rt) (h : EJ X Z sp e m en) : BJ X Z Qr D sp (.Return (some e) pos :: rest) m := fun F ad σ H S hm => by
  refine seq (ofS (ps_ret pe_w) ?_)
  refine h F ad σ H _ S (hm.imp fun r q F' H' v n hr => ?_)
  have S' := S.nx n
  exact hR r F' H' v S'.f0 S'.fh S'.gh S'.fg hr q
theorem bj_retN {Qr' : Unit → Prop} (hR : RT Z (rtV (eU : Enc X.K Unit)) Qr' D.rt) : BJ X Z Qr' D sp (.Return none pos :: rest) (.ok ()) := fun F ad σ H S hm => by
  refine seq (ofS ps_retN ?_)
  exact hR () F H .non S.f0 S.fh S.gh S.fg rfl hm
theorem bj_retF {en : Enc X.K α} {Qr : List α → Prop} {m : Res (List α)} (hR : RT Z (rtN en) Qr D.rt) (h : FJ X Z sp e m en) : BJ X Z Qr D sp (.Return (some e) pos :: rest) m := fun F ad σ H S hm => by
  refine seq (ofS (ps_ret pe_w) ?_)
  refine h F ad σ H _ S (hm.imp fun r q F' H' p vs n h1 h2 h3 hz h4 => ?_)
  have S' := S.nx n
  exact hR r F' H' (.ref p) S'.f0 S'.fh S'.gh S'.fg ⟨p, vs, rfl, S.gh.free h1, h2, h3, hz, h4⟩ q
theorem bj_retO {en : Enc X.K α} {Qr : List α → Prop} {i k : Nat} {y : Str} {xs : List α} (hR : RT Z (rtN en) Qr D.rt) (hs : sp.sl[i]? = some (.own k) := by rfl) (ho : sp.ob[k]? = some (.lst t en xs) := by rfl) (hN : X.N[i]? = some y := by rfl)
    (hv : Vis X.env.scope y := by first | exact Or.inl rfl | exact Or.inr (Or.inl rfl) | exact Or.inr (Or.inr rfl)) (hd : (y == ("__debug__" : Str)) = false := by decide) (hcd : (y == ("__classdict__" : Str)) = false := by decide) :
    BJ X Z Qr D sp (.Return (some (.Name y p)) pos :: rest) (.ok xs) := fun F ad σ H S hm => by
  refine seq (ofS (ps_ret (pe_var (i := i) hN hv hd hcd)) ?_)
  obtain ⟨q, vs, h1, h2, h3, hz, h4, h5, h6, ht⟩ := S.own hs ho
  exact ⟨.ref q, h1, hR xs F H (.ref q) S.f0 S.fh S.gh S.fg ⟨q, vs, rfl, h6, h5, h3, hz, h4⟩ hm⟩
/-- the end of a def that hands nothing back -/
theorem bj_fall {Qr : Unit → Prop} (hR : RT Z (rtV (eU : Enc X.K Unit)) Qr (fun v H' => v = .non → ∀ σ, D.nx σ H')) : BJ X Z Qr D sp [] (.ok ()) := fun F ad σ H S hm =>
  ofB pss_nil (hR () F H .non S.f0 S.fh S.gh S.fg rfl hm rfl σ)
/-! ### stores -/
theorem bj_asg {en : Enc X.K α} {me : Res α} {kk : α → Res ρ} {i : Nat} {pos' : Pos} (am : Amb X Z k) (h : EJ X Z sp e me en) (hr : ∀ v, BJ X Z Qr D ⟨sp.sl.set i (.val en v), sp.ob⟩ rest (kk v)) (hi : X.N[i]? = some x := by rfl) (hx : Loc X.env.scope x := by first | exact Or.inl rfl | exact Or.inr rfl)
    (hs : swapsWith e (some (.Name x pos')) pos.line X.env = pure false := by rfl) (hf : X.fn x = true ∨ X.env.scope.names.lookup x = some .local := by first | exact .inl rfl | exact .inr rfl) :
    BJ X Z Qr D sp (.Assign [.Name x pos'] e pos :: rest) (me.bi kk) := fun F ad σ H S hm => by
  refine seq (ofS (ps_set am.nd hi hx pe_w hs hf) ?_)
  refine h F ad σ H _ S (hm.bi.imp fun v q F' H' u n r => ?_)
  exact hr v F' ad _ H' ((S.nx n).set ⟨u, rfl, r⟩) q
theorem bj_asg_p {en : Enc X.K α} {v : α} {i : Nat} {pos' : Pos} (am : Amb X Z k) (h : EJ X Z sp e (.ok v) en) (hr : BJ X Z Qr D ⟨sp.sl.set i (.val en v), sp.ob⟩ rest m) (hi : X.N[i]? = some x := by rfl) (hx : Loc X.env.scope x := by first | exact Or.inl rfl | exact Or.inr rfl)
    (hs : swapsWith e (some (.Name x pos')) pos.line X.env = pure false := by rfl) (hf : X.fn x = true ∨ X.env.scope.names.lookup x = some .local := by first | exact .inl rfl | exact .inr rfl) :
    BJ X Z Qr D sp (.Assign [.Name x pos'] e pos :: rest) m := fun F ad σ H S hm => by
  refine seq (ofS (ps_set am.nd hi hx pe_w hs hf) ?_)
  refine h F ad σ H _ S (fun F' H' u n r => ?_)
  exact hr F' ad _ H' ((S.nx n).set ⟨u, rfl, r⟩) hm
/-- a new list to a name, to be changed -/
theorem bj_own {en : Enc X.K α} {me : Res (List α)} {kk : List α → Res ρ} {i : Nat} {pos' : Pos} (am : Amb X Z k) (h : FJ X Z sp e me en) (hr : ∀ v, BJ X Z Qr D ⟨sp.sl.set i (.own sp.ob.length), sp.ob ++ [.lst none en v]⟩ rest (kk v)) (hi : X.N[i]? = some x := by rfl) (hx : Loc X.env.scope x := by first | exact Or.inl rfl | exact Or.inr rfl)
    (hs : swapsWith e (some (.Name x pos')) pos.line X.env = pure false := by rfl) (hf : X.fn x = true ∨ X.env.scope.names.lookup x = some .local := by first | exact .inl rfl | exact .inr rfl) :
    BJ X Z Qr D sp (.Assign [.Name x pos'] e pos :: rest) (me.bi kk) := fun F ad σ H S hm => by
  refine seq (ofS (ps_set am.nd hi hx pe_w hs hf) ?_)
  refine h F ad σ H _ S (hm.bi.imp fun v q F' H' p vs n h1 h2 h3 hz h4 => ?_)
  exact hr v F' (ad ++ [p]) _ H' ((S.push n h1 h2 h3 hz h4).set ⟨p, by rw [S.olen]; simp, rfl⟩) q
theorem bj_own_p {en : Enc X.K α} {v : List α} {i : Nat} {pos' : Pos} (am : Amb X Z k) (h : FJ X Z sp e (.ok v) en) (hr : BJ X Z Qr D ⟨sp.sl.set i (.own sp.ob.length), sp.ob ++ [.lst none en v]⟩ rest m) (hi : X.N[i]? = some x := by rfl) (hx : Loc X.env.scope x := by first | exact Or.inl rfl | exact Or.inr rfl)
    (hs : swapsWith e (some (.Name x pos')) pos.line X.env = pure false := by rfl) (hf : X.fn x = true ∨ X.env.scope.names.lookup x = some .local := by first | exact .inl rfl | exact .inr rfl) :
    BJ X Z Qr D sp (.Assign [.Name x pos'] e pos :: rest) m := fun F ad σ H S hm => by
  refine seq (ofS (ps_set am.nd hi hx pe_w hs hf) ?_)
  refine h F ad σ H _ S (fun F' H' p vs n h1 h2 h3 hz h4 => ?_)
  exact hr F' (ad ++ [p]) _ H' ((S.push n h1 h2 h3 hz h4).set ⟨p, by rw [S.olen]; simp, rfl⟩) hm
/-- a tuple to names -/
theorem bj_tup {en : Enc X.K α} {me : Res α} {kk : α → Res ρ} {tg : Expr} {is : List Nat} {bd : α → List (Sl X.K) → List (Sl X.K)} (h : EJ X Z sp e me en) (g : GJ X tg en is bd) (hr : ∀ v, BJ X Z Qr D ⟨bd v sp.sl, sp.ob⟩ rest (kk v))
    (hs : swapsWithSole [tg] e pos.line X.env = pure false := by rfl) (hw : swappedStores [tg] e X.env = pure none := by rfl) (h1 : (assignEach [tg] X.env).map (·.2) = [assign tg X.env] := by rfl) :
    BJ X Z Qr D sp (.Assign [tg] e pos :: rest) (me.bi kk) := fun F ad σ H S hm => by
  refine seq (ofS (ps_asg pe_w pg_w hs hw h1) ?_)
  refine h F ad σ H _ S (hm.bi.imp fun v q F' H' u n r => ?_)
  exact g Z F' ad sp σ H' u v _ (S.nx n) r fun σ' S' _ _ => hr v F' ad σ' H' S' q
theorem bj_tup_p {en : Enc X.K α} {v : α} {tg : Expr} {is : List Nat} {bd : α → List (Sl X.K) → List (Sl X.K)} (h : EJ X Z sp e (.ok v) en) (g : GJ X tg en is bd) (hr : BJ X Z Qr D ⟨bd v sp.sl, sp.ob⟩ rest m)
    (hs : swapsWithSole [tg] e pos.line X.env = pure false := by rfl) (hw : swappedStores [tg] e X.env = pure none := by rfl) (h1 : (assignEach [tg] X.env).map (·.2) = [assign tg X.env] := by rfl) :
    BJ X Z Qr D sp (.Assign [tg] e pos :: rest) m := fun F ad σ H S hm => by
  refine seq (ofS (ps_asg pe_w pg_w hs hw h1) ?_)
  refine h F ad σ H _ S (fun F' H' u n r => ?_)
  exact g Z F' ad sp σ H' u v _ (S.nx n) r fun σ' S' _ _ => hr F' ad σ' H' S' hm
/-- x += e, ints -/
theorem bj_aug {op : Operator} {f : Int → Int → Int} {me : Res Int} {kk : Int → Res ρ} {i : Nat} {u : Int} {pos' : Pos} (am : Amb X Z k) (ho : PIp X op (ipI f)) (hs : sp.sl[i]? = some (.val eI u)) (h : EJ X Z sp e me eI) (hr : ∀ v, BJ X Z Qr D ⟨sp.sl.set i (.val eI (f u v)), sp.ob⟩ rest (kk (f u v)))
    (hi : X.N[i]? = some x := by rfl) (hx : Loc X.env.scope x := by first | exact Or.inl rfl | exact Or.inr rfl) (hf : X.fn x = true ∨ X.env.scope.names.lookup x = some .local := by first | exact .inl rfl | exact .inr rfl) :
    BJ X Z Qr D sp (.AugAssign (.Name x pos') op e pos :: rest) (me.bi fun v => kk (f u v)) := fun F ad σ H S hm => by
  refine seq (ofS (ps_aug am.nd hi hx pe_w ho hf) ?_)
  obtain ⟨o, h1, w, h2, h3⟩ := S.sl i _ hs
  refine ⟨w, by rw [h1, h2], ?_⟩
  refine h F ad σ H _ S (hm.bi.imp fun v q F' H' y n r => ?_)
  exact ⟨u, v, h3, r, hr v F' ad _ H' ((S.nx n).set ⟨_, rfl, rfl⟩) q⟩
theorem bj_aug_p {op : Operator} {f : Int → Int → Int} {v u : Int} {i : Nat} {pos' : Pos} (am : Amb X Z k) (ho : PIp X op (ipI f)) (hs : sp.sl[i]? = some (.val eI u)) (h : EJ X Z sp e (.ok v) eI) (hr : BJ X Z Qr D ⟨sp.sl.set i (.val eI (f u v)), sp.ob⟩ rest m)
    (hi : X.N[i]? = some x := by rfl) (hx : Loc X.env.scope x := by first | exact Or.inl rfl | exact Or.inr rfl) (hf : X.fn x = true ∨ X.env.scope.names.lookup x = some .local := by first | exact .inl rfl | exact .inr rfl) :
    BJ X Z Qr D sp (.AugAssign (.Name x pos') op e pos :: rest) m := fun F ad σ H S hm => by
  refine seq (ofS (ps_aug am.nd hi hx pe_w ho hf) ?_)
  obtain ⟨o, h1, w, h2, h3⟩ := S.sl i _ hs
  refine ⟨w, by rw [h1, h2], ?_⟩
  refine h F ad σ H _ S (fun F' H' y n r => ?_)
  exact ⟨u, v, h3, r, hr F' ad _ H' ((S.nx n).set ⟨_, rfl, rfl⟩) hm⟩
/-! ### one's own list, changed -/
def appM {α : Type} (xs : List α) (y : α) : Res (List α) := gd (xs.length < sizeLine) (xs ++ [y])
theorem tyV_own {K : Frag} {q : Addr} {vs : List V} (h : H q = some (.lst vs)) : tyV K "list" (.ref q) H := .inl ⟨rfl, vs, SqL.of h⟩
theorem bj_append {en : Enc X.K α} {me : Res α} {kk : List α → Res ρ} {i o : Nat} {xs : List α} {apos cpos : Pos} (hs : sp.sl[i]? = some (.own o)) (ho : sp.ob[o]? = some (.lst t en xs)) (h : EJ X Z sp e me en) (hr : ∀ v, BJ X Z Qr D ⟨sp.sl, sp.ob.set o (.lst t en v)⟩ rest (kk v)) (hN : X.N[i]? = some x := by rfl) (hn : nst e = true := by rfl)
    (hline : (apos.endLine == cpos.line) = true := by rfl) (hv : Vis X.env.scope x := by first | exact Or.inl rfl | exact Or.inr (Or.inl rfl) | exact Or.inr (Or.inr rfl)) (hd : (x == ("__debug__" : Str)) = false := by decide) (hcd : (x == ("__classdict__" : Str)) = false := by decide)
    (hbase : attributeBase (.Name x p) "append" X.env (eval (.Name x p) X.env) = eval (.Name x p) X.env := by rfl)
    (hw : swapsWith (.Call (.Attribute (.Name x p) "append" apos) [e] [] cpos) none pos.line X.env = pure false := by rfl) :
    BJ X Z Qr D sp (.Expr (.Call (.Attribute (.Name x p) "append" apos) [e] [] cpos) pos :: rest) (me.bi fun y => (appM xs y).bi kk) := fun F ad σ H S hm => by
  refine seq (ofS (ps_expr (pe_bm PySem.F.plainAttrs_list PySem.F.slot_list_append PySem.F.type_list_append mt_append (pe_var (i := i) hN hv hd hcd) (pa_cons pe_w pa_nil (star_cons hn)) hbase (by rw [star_cons hn]; rfl) hline (star_cons hn) rfl) hw) ?_)
  obtain ⟨q, vs, h1, h2, h3, hz, h4, h5, h6, ht⟩ := S.own hs ho
  refine ⟨.ref q, h1, tyV_own h3, ?_⟩
  refine h F ad σ H _ S (hm.bi.imp fun y g F' H' u n r => ?_)
  obtain ⟨c, g⟩ := g.bi.gd
  have h3' := n.hh _ _ h3
  have S' := S.nx n
  have hl : vs.length < sizeLine := by rw [h4.length]; exact c
  refine ⟨q, vs, u, rfl, rfl, h3', hl, ?_⟩
  exact hr _ F' ad σ _ (S'.upd h2 ht ⟨_, h3'⟩ (n.non h5 (by rw [h3]; exact fun z => nomatch z)) h6 (by rw [List.length_append]; exact hl) ((h4.mono n.ff).snoc r)) g
theorem bj_append_p {en : Enc X.K α} {y : α} {kk : List α → Res ρ} {i o : Nat} {xs : List α} {apos cpos : Pos} (hs : sp.sl[i]? = some (.own o)) (ho : sp.ob[o]? = some (.lst t en xs)) (h : EJ X Z sp e (.ok y) en) (hr : ∀ v, BJ X Z Qr D ⟨sp.sl, sp.ob.set o (.lst t en v)⟩ rest (kk v)) (hN : X.N[i]? = some x := by rfl) (hn : nst e = true := by rfl)
    (hline : (apos.endLine == cpos.line) = true := by rfl) (hv : Vis X.env.scope x := by first | exact Or.inl rfl | exact Or.inr (Or.inl rfl) | exact Or.inr (Or.inr rfl)) (hd : (x == ("__debug__" : Str)) = false := by decide) (hcd : (x == ("__classdict__" : Str)) = false := by decide)
    (hbase : attributeBase (.Name x p) "append" X.env (eval (.Name x p) X.env) = eval (.Name x p) X.env := by rfl)
    (hw : swapsWith (.Call (.Attribute (.Name x p) "append" apos) [e] [] cpos) none pos.line X.env = pure false := by rfl) :
    BJ X Z Qr D sp (.Expr (.Call (.Attribute (.Name x p) "append" apos) [e] [] cpos) pos :: rest) ((appM xs y).bi kk) := bj_append hs ho h hr hN hn hline hv hd hcd hbase hw
def insM {α : Type} (xs : List α) (i : Int) (y : α) : Res (List α) := gd (xs.length < sizeLine ∧ 0 ≤ i ∧ i < 2 ^ 63) (xs.take i.toNat ++ [y] ++ xs.drop i.toNat)
theorem bj_clear {en : Enc X.K α} {i o : Nat} {xs : List α} {apos cpos : Pos} (hs : sp.sl[i]? = some (.own o)) (ho : sp.ob[o]? = some (.lst t en xs)) (hr : BJ X Z Qr D ⟨sp.sl, sp.ob.set o (.lst t en [])⟩ rest m) (hN : X.N[i]? = some x := by rfl)
    (hline : (apos.endLine == cpos.line) = true := by rfl) (hv : Vis X.env.scope x := by first | exact Or.inl rfl | exact Or.inr (Or.inl rfl) | exact Or.inr (Or.inr rfl)) (hd : (x == ("__debug__" : Str)) = false := by decide) (hcd : (x == ("__classdict__" : Str)) = false := by decide)
    (hbase : attributeBase (.Name x p) "clear" X.env (eval (.Name x p) X.env) = eval (.Name x p) X.env := by rfl)
    (hw : swapsWith (.Call (.Attribute (.Name x p) "clear" apos) [] [] cpos) none pos.line X.env = pure false := by rfl) :
    BJ X Z Qr D sp (.Expr (.Call (.Attribute (.Name x p) "clear" apos) [] [] cpos) pos :: rest) m := fun F ad σ H S hm => by
  refine seq (ofS (ps_expr (pe_bm0 PySem.F.plainAttrs_list PySem.F.slot_list_clear PySem.F.type_list_clear mt_clear (pe_var (i := i) hN hv hd hcd) hbase hline) hw) ?_)
  obtain ⟨q, vs, h1, h2, h3, hz, h4, h5, h6, ht⟩ := S.own hs ho
  refine ⟨.ref q, h1, tyV_own h3, q, vs, rfl, rfl, h3, ?_⟩
  exact hr F ad σ _ (S.upd h2 ht ⟨_, h3⟩ h5 h6 (Nat.zero_le _) .nil) hm
/-- x[i] = e -/
theorem bj_seti {en : Enc X.K α} {me : Res α} {mi : Res Int} {kk : List α → Res ρ} {i o : Nat} {xs : List α} {ie : Expr} {spos : Pos} (hs : sp.sl[i]? = some (.own o)) (ho : sp.ob[o]? = some (.lst t en xs)) (h : EJ X Z sp e me en) (hi : EJ X Z sp ie mi eI) (hr : ∀ v, BJ X Z Qr D ⟨sp.sl, sp.ob.set o (.lst t en v)⟩ rest (kk v)) (hN : X.N[i]? = some x := by rfl)
    (hv : Vis X.env.scope x := by first | exact Or.inl rfl | exact Or.inr (Or.inl rfl) | exact Or.inr (Or.inr rfl)) (hd : (x == ("__debug__" : Str)) = false := by decide) (hcd : (x == ("__classdict__" : Str)) = false := by decide)
    (ha : ∀ v, assign (.Subscript (.Name x p) ie spos) X.env v = (do
      let ov ← holding [v] (eval (.Name x p) X.env)
      let iv ← holding [v, ov] (eval ie X.env)
      standAt spos
      holding [v, ov, iv] (setItem ov iv v)
      release [v, ov, iv] []) := by intro _; rfl)
    (h2 : swapsWithSole [.Subscript (.Name x p) ie spos] e pos.line X.env = pure false := by rfl) (hw : swappedStores [.Subscript (.Name x p) ie spos] e X.env = pure none := by rfl) (h1 : (assignEach [.Subscript (.Name x p) ie spos] X.env).map (·.2) = [assign (.Subscript (.Name x p) ie spos) X.env] := by rfl) :
    BJ X Z Qr D sp (.Assign [.Subscript (.Name x p) ie spos] e pos :: rest) (me.bi fun y => mi.bi fun j => (seti xs j y).bi kk) := fun F ad σ H S hm => by
  refine seq (ofS (ps_asg pe_w (pg_sub (pe_var (i := i) hN hv hd hcd) pe_w set_list ha) h2 hw h1) ?_)
  refine h F ad σ H _ S (hm.bi.imp fun y g F1 H1 u n1 r1 => ?_)
  have S1 := S.nx n1
  obtain ⟨q, vs, k1, k2, k3, hz, k4, k5, k6, ht⟩ := S1.own hs ho
  refine ⟨.ref q, k1, ?_⟩
  refine hi F1 ad σ H1 _ S1 (g.bi.imp fun j g F2 H2 w n2 r2 => ?_)
  have S2 := S1.nx n2
  unfold seti at g
  cases ej : ixN xs.length j with
  | none => rw [ej] at g; exact g.elim
  | some t =>
    rw [ej] at g
    have k3' := n2.hh _ _ k3
    refine ⟨q, vs, j, t, rfl, r2, k3', by rw [k4.length]; exact ej, ?_⟩
    exact hr _ F2 ad σ _ (S2.upd k2 ht ⟨_, k3'⟩ (n2.non k5 (by rw [k3]; exact fun z => nomatch z)) k6 (by rw [List.length_set]; exact hz) ((k4.mono n2.ff).set (en.mono n2.ff r1) t)) g
theorem bj_seti_p {en : Enc X.K α} {y : α} {jj : Int} {kk : List α → Res ρ} {i o : Nat} {xs : List α} {ie : Expr} {spos : Pos} (hs : sp.sl[i]? = some (.own o)) (ho : sp.ob[o]? = some (.lst t en xs)) (h : EJ X Z sp e (.ok y) en) (hi : EJ X Z sp ie (.ok jj) eI) (hr : ∀ v, BJ X Z Qr D ⟨sp.sl, sp.ob.set o (.lst t en v)⟩ rest (kk v)) (hN : X.N[i]? = some x := by rfl)
    (hv : Vis X.env.scope x := by first | exact Or.inl rfl | exact Or.inr (Or.inl rfl) | exact Or.inr (Or.inr rfl)) (hd : (x == ("__debug__" : Str)) = false := by decide) (hcd : (x == ("__classdict__" : Str)) = false := by decide)
    (ha : ∀ v, assign (.Subscript (.Name x p) ie spos) X.env v = (do
      let ov ← holding [v] (eval (.Name x p) X.env)
      let iv ← holding [v, ov] (eval ie X.env)
      standAt spos
      holding [v, ov, iv] (setItem ov iv v)
      release [v, ov, iv] []) := by intro _; rfl)
    (h2 : swapsWithSole [.Subscript (.Name x p) ie spos] e pos.line X.env = pure false := by rfl) (hw : swappedStores [.Subscript (.Name x p) ie spos] e X.env = pure none := by rfl) (h1 : (assignEach [.Subscript (.Name x p) ie spos] X.env).map (·.2) = [assign (.Subscript (.Name x p) ie spos) X.env] := by rfl) :
    BJ X Z Qr D sp (.Assign [.Subscript (.Name x p) ie spos] e pos :: rest) ((seti xs jj y).bi kk) := bj_seti hs ho h hi hr hN hv hd hcd ha h2 hw h1
/-- o[i], a list, by values -/
theorem get_listV : PGet X (fun o i H Q => ∃ p xs k v, o = .ref p ∧ i = .int k ∧ SqL X.K H p xs ∧ atI xs k = some v ∧ Q v H) := by
  intro pins s σ H o i ov iv Q I ro ri h
  obtain ⟨p, xs, k, v, rfl, rfl, hq, hv, q⟩ := h
  cases ro
  obtain ⟨t, rfl⟩ := ri
  obtain ⟨its, r, pl, hz⟩ := I.list hq
  obtain ⟨j, h1, h2, h3, h4, h5⟩ := atI_get hv
  obtain ⟨w, ew, rw'⟩ := r.get h2
  have hl := r.length
  have hn := line63
  have fin : EP X pins σ Q w s := ⟨v, H, I, rw', q⟩
  by_cases h0 : 0 ≤ k
  · have hj : k.toNat = j := by
      rw [seqIndex_of h0 h5] at h1
      exact Option.some.inj h1
    exact wpAny_getItem_list pl.isList h0 (by omega) (by rw [hj]; simpa using ew) fin
  · have hj : (k + (its.toArray.size : Int)).toNat = j := by
      rw [seqIndex_neg (by omega) h4] at h1
      rw [List.size_toArray, ← hl]
      exact Option.some.inj h1
    exact wpAny_getItem_list_neg pl.isList (by omega) (by rw [List.size_toArray] <;> omega) (by omega) (by rw [hj]; simpa using ew) fin
/-- x[i] += e -/
def augi (f : Int → Int → Int) (xs : List Int) (i v : Int) : Res (List Int) := (geti xs i).bi fun u => seti xs i (f u v)
theorem bj_augi {op : Operator} {f : Int → Int → Int} {me mi : Res Int} {kk : List Int → Res ρ} {i o : Nat} {xs : List Int} {ie : Expr} {spos : Pos} (hp : PIp X op (ipI f)) (hs : sp.sl[i]? = some (.own o)) (ho : sp.ob[o]? = some (.lst t eI xs)) (hi : EJ X Z sp ie mi eI) (h : EJ X Z sp e me eI) (hr : ∀ v, BJ X Z Qr D ⟨sp.sl, sp.ob.set o (.lst t eI v)⟩ rest (kk v)) (hN : X.N[i]? = some x := by rfl)
    (hv : Vis X.env.scope x := by first | exact Or.inl rfl | exact Or.inr (Or.inl rfl) | exact Or.inr (Or.inr rfl)) (hd : (x == ("__debug__" : Str)) = false := by decide) (hcd : (x == ("__classdict__" : Str)) = false := by decide)
    (ha : ∀ ov iv new, augStore ie ov iv new = (do holding [new, ov, iv] (setItem ov iv new); release [new, ov, iv] []; pure .next) := by intros; rfl) :
    BJ X Z Qr D sp (.AugAssign (.Subscript (.Name x p) ie spos) op e pos :: rest) (mi.bi fun j => (geti xs j).bi fun u => me.bi fun v => (seti xs j (f u v)).bi kk) := fun F ad σ H S hm => by
  refine seq (ofS (ps_augS (pe_var (i := i) hN hv hd hcd) pe_w get_listV pe_w hp set_list ha) ?_)
  obtain ⟨q, vs, k1, k2, k3, hz, k4, k5, k6, ht⟩ := S.own hs ho
  refine ⟨.ref q, k1, ?_⟩
  refine hi F ad σ H _ S (hm.bi.imp fun j g F1 H1 w n1 r1 => ?_)
  have S1 := S.nx n1
  obtain ⟨u, hu, g⟩ := g.bi.geti
  have k3a := n1.hh _ _ k3
  obtain ⟨uv, gu, ru⟩ := (k4.mono n1.ff).atI hu
  refine ⟨q, vs, j, uv, rfl, r1, SqL.of k3a, gu, ?_⟩
  refine h F1 ad σ H1 _ S1 (g.bi.imp fun v g F2 H2 y n2 r2 => ?_)
  have S2 := S1.nx n2
  have n := n1.trans n2
  refine ⟨u, v, ru, r2, ?_⟩
  unfold seti at g
  cases ej : ixN xs.length j with
  | none => rw [ej] at g; exact g.elim
  | some t =>
    rw [ej] at g
    have k3' := n.hh _ _ k3
    refine ⟨q, vs, j, t, rfl, r1, k3', by rw [k4.length]; exact ej, ?_⟩
    exact hr _ F2 ad σ _ (S2.upd k2 ht ⟨_, k3'⟩ (n.non k5 (by rw [k3]; exact fun z => nomatch z)) k6 (by rw [List.length_set]; exact hz) ((k4.mono n.ff).set rfl t)) g
theorem bj_augi_p {op : Operator} {f : Int → Int → Int} {v jj : Int} {kk : List Int → Res ρ} {i o : Nat} {xs : List Int} {ie : Expr} {spos : Pos} (hp : PIp X op (ipI f)) (hs : sp.sl[i]? = some (.own o)) (ho : sp.ob[o]? = some (.lst t eI xs)) (hi : EJ X Z sp ie (.ok jj) eI) (h : EJ X Z sp e (.ok v) eI) (hr : ∀ v, BJ X Z Qr D ⟨sp.sl, sp.ob.set o (.lst t eI v)⟩ rest (kk v)) (hN : X.N[i]? = some x := by rfl)
    (hv : Vis X.env.scope x := by first | exact Or.inl rfl | exact Or.inr (Or.inl rfl) | exact Or.inr (Or.inr rfl)) (hd : (x == ("__debug__" : Str)) = false := by decide) (hcd : (x == ("__classdict__" : Str)) = false := by decide)
    (ha : ∀ ov iv new, augStore ie ov iv new = (do holding [new, ov, iv] (setItem ov iv new); release [new, ov, iv] []; pure .next) := by intros; rfl) :
    BJ X Z Qr D sp (.AugAssign (.Subscript (.Name x p) ie spos) op e pos :: rest) ((augi f xs jj v).bi kk) := fun F ad σ H S hm => bj_augi hp hs ho hi h hr hN hv hd hcd ha F ad σ H S (by
    unfold augi at hm
    rw [bi_bi] at hm
    exact hm)
/-- x.insert(i, e) -/
theorem bj_insert {en : Enc X.K α} {me : Res α} {mi : Res Int} {kk : List α → Res ρ} {i o : Nat} {xs : List α} {ie : Expr} {apos cpos : Pos} (hs : sp.sl[i]? = some (.own o)) (ho : sp.ob[o]? = some (.lst t en xs)) (hi : EJ X Z sp ie mi eI) (h : EJ X Z sp e me en) (hr : ∀ v, BJ X Z Qr D ⟨sp.sl, sp.ob.set o (.lst t en v)⟩ rest (kk v)) (hN : X.N[i]? = some x := by rfl) (hn : nst ie = true := by rfl) (hn2 : nst e = true := by rfl)
    (hline : (apos.endLine == cpos.line) = true := by rfl) (hv : Vis X.env.scope x := by first | exact Or.inl rfl | exact Or.inr (Or.inl rfl) | exact Or.inr (Or.inr rfl)) (hd : (x == ("__debug__" : Str)) = false := by decide) (hcd : (x == ("__classdict__" : Str)) = false := by decide)
    (hbase : attributeBase (.Name x p) "insert" X.env (eval (.Name x p) X.env) = eval (.Name x p) X.env := by rfl)
    (hw : swapsWith (.Call (.Attribute (.Name x p) "insert" apos) [ie, e] [] cpos) none pos.line X.env = pure false := by rfl) :
    BJ X Z Qr D sp (.Expr (.Call (.Attribute (.Name x p) "insert" apos) [ie, e] [] cpos) pos :: rest) (mi.bi fun j => me.bi fun y => (insM xs j y).bi kk) := fun F ad σ H S hm => by
  refine seq (ofS (ps_expr (pe_bm PySem.F.plainAttrs_list PySem.F.slot_list_insert PySem.F.type_list_insert mt_insert (pe_var (i := i) hN hv hd hcd) (pa_cons pe_w (pa_cons pe_w pa_nil (star_cons hn2)) (star_cons hn)) hbase (by rw [star_cons hn, star_cons hn2]; rfl) hline (star_cons hn) (by rw [star_cons hn2]; rfl)) hw) ?_)
  obtain ⟨q, vs, h1, h2, h3, hz, h4, h5, h6, ht⟩ := S.own hs ho
  refine ⟨.ref q, h1, tyV_own h3, ?_⟩
  refine hi F ad σ H _ S (hm.bi.imp fun j g F1 H1 w n1 r1 => ?_)
  refine h F1 ad σ H1 _ (S.nx n1) (g.bi.imp fun y g F2 H2 u n2 r2 => ?_)
  obtain ⟨⟨c1, c2, c3⟩, g⟩ := g.bi.gd
  have n := n1.trans n2
  have h3' := n.hh _ _ h3
  have hl : vs.length < sizeLine := by rw [h4.length]; exact c1
  have r1 : w = .int j := r1
  subst r1
  have rr := h4.mono n.ff
  refine ⟨q, vs, j, u, rfl, rfl, h3', hl, c2, c3, ?_⟩
  refine hr _ F2 ad σ _ ((S.nx n).upd h2 ht ⟨_, h3'⟩ (n.non h5 (by rw [h3]; exact fun z => nomatch z)) h6 ?_ (((rr.take _).append (.cons r2 .nil)).append (rr.drop _))) g
  rw [List.length_append, List.length_append, List.length_take, List.length_drop, List.length_singleton]
  omega
theorem bj_insert_p {en : Enc X.K α} {y : α} {jj : Int} {kk : List α → Res ρ} {i o : Nat} {xs : List α} {ie : Expr} {apos cpos : Pos} (hs : sp.sl[i]? = some (.own o)) (ho : sp.ob[o]? = some (.lst t en xs)) (hi : EJ X Z sp ie (.ok jj) eI) (h : EJ X Z sp e (.ok y) en) (hr : ∀ v, BJ X Z Qr D ⟨sp.sl, sp.ob.set o (.lst t en v)⟩ rest (kk v)) (hN : X.N[i]? = some x := by rfl) (hn : nst ie = true := by rfl) (hn2 : nst e = true := by rfl)
    (hline : (apos.endLine == cpos.line) = true := by rfl) (hv : Vis X.env.scope x := by first | exact Or.inl rfl | exact Or.inr (Or.inl rfl) | exact Or.inr (Or.inr rfl)) (hd : (x == ("__debug__" : Str)) = false := by decide) (hcd : (x == ("__classdict__" : Str)) = false := by decide)
    (hbase : attributeBase (.Name x p) "insert" X.env (eval (.Name x p) X.env) = eval (.Name x p) X.env := by rfl)
    (hw : swapsWith (.Call (.Attribute (.Name x p) "insert" apos) [ie, e] [] cpos) none pos.line X.env = pure false := by rfl) :
    BJ X Z Qr D sp (.Expr (.Call (.Attribute (.Name x p) "insert" apos) [ie, e] [] cpos) pos :: rest) ((insM xs jj y).bi kk) := bj_insert hs ho hi h hr hN hn hn2 hline hv hd hcd hbase hw
/-! ### if -/
variable {thn els : List Stmt} {mc : Res Bool} {c : Expr}
/-- both ways go on as k says (or leave) -/
theorem bj_if {S : Type} {sps : S → Spec X.K} {kk : S → Res ρ} {mA mB : Res ρ} (hc : TJ X Z sp c mc) (hr : ∀ s, BJ X Z Qr D (sps s) rest (kk s))
    (hA : ∀ nx, NX X Z Qr nx sps kk → BJ X Z Qr { D with nx := nx } sp thn mA) (hB : ∀ nx, NX X Z Qr nx sps kk → BJ X Z Qr { D with nx := nx } sp els mB) : BJ X Z Qr D sp (.If c thn els pos :: rest) (mc.bi fun b => if b then mA else mB) := fun F ad σ H S hm => by
  refine seq (ofS (ps_if pt_w pb_w pb_w) ?_)
  have N : NX X Z Qr (wB X rest D) sps kk := fun s F ad σ H S' h => hr s F ad σ H S' h
  refine hc F ad σ H _ S (hm.bi.imp fun b q F' H' n => ?_)
  cases b with
  | true => exact hA _ N F' ad σ H' (S.nx n) q
  | false => exact hB _ N F' ad σ H' (S.nx n) q
theorem bj_if_p {S : Type} {sps : S → Spec X.K} {kk : S → Res ρ} {mA mB : Res ρ} {b : Bool} (hc : TJ X Z sp c (.ok b)) (hr : ∀ s, BJ X Z Qr D (sps s) rest (kk s))
    (hA : ∀ nx, NX X Z Qr nx sps kk → BJ X Z Qr { D with nx := nx } sp thn mA) (hB : ∀ nx, NX X Z Qr nx sps kk → BJ X Z Qr { D with nx := nx } sp els mB) : BJ X Z Qr D sp (.If c thn els pos :: rest) (if b then mA else mB) := bj_if hc hr hA hB
/-- the first way leaves; there is no other one -/
theorem bj_ifr {mA mB : Res ρ} (hc : TJ X Z sp c mc) (hA : ∀ nx, BJ X Z Qr { D with nx := nx } sp thn mA) (hr : BJ X Z Qr D sp rest mB) : BJ X Z Qr D sp (.If c thn [] pos :: rest) (mc.bi fun b => if b then mA else mB) := fun F ad σ H S hm => by
  refine seq (ofS (ps_if pt_w pb_w pss_nil) ?_)
  refine hc F ad σ H _ S (hm.bi.imp fun b q F' H' n => ?_)
  cases b with
  | true => exact hA _ F' ad σ H' (S.nx n) q
  | false => exact hr F' ad σ H' (S.nx n) q
theorem bj_ifr_p {mA mB : Res ρ} {b : Bool} (hc : TJ X Z sp c (.ok b)) (hA : ∀ nx, BJ X Z Qr { D with nx := nx } sp thn mA) (hr : BJ X Z Qr D sp rest mB) : BJ X Z Qr D sp (.If c thn [] pos :: rest) (if b then mA else mB) := bj_ifr hc hA hr
/-- nothing leaves: both ways make a state, the rest goes on from it -/
theorem bj_ifs {S : Type} {sps : S → Spec X.K} {kk : S → Res ρ} {mA mB : Res S} (hc : TJ X Z sp c mc) (hr : ∀ s, BJ X Z Qr D (sps s) rest (kk s))
    (hA : ∀ (Q' : S → Prop) (D' : Ends), NX X Z Q' D'.nx sps .ok → BJ X Z Q' D' sp thn mA) (hB : ∀ (Q' : S → Prop) (D' : Ends), NX X Z Q' D'.nx sps .ok → BJ X Z Q' D' sp els mB) : BJ X Z Qr D sp (.If c thn els pos :: rest) ((mc.bi fun b => if b then mA else mB).bi kk) := fun F ad σ H S hm => by
  refine seq (ofS (ps_if pt_w pb_w pb_w) ?_)
  have N : NX X Z (fun s => mwp (kk s) Qr Z.Er) (wB X rest D) sps .ok := fun s F ad σ H S' h => hr s F ad σ H S' h
  refine hc F ad σ H _ S (hm.bi.bi.imp fun b q F' H' n => ?_)
  cases b with
  | true => exact hA _ { D with nx := wB X rest D } N F' ad σ H' (S.nx n) q
  | false => exact hB _ { D with nx := wB X rest D } N F' ad σ H' (S.nx n) q
theorem bj_ifs_p {S : Type} {sps : S → Spec X.K} {kk : S → Res ρ} {mA mB : Res S} {b : Bool} (hc : TJ X Z sp c (.ok b)) (hr : ∀ s, BJ X Z Qr D (sps s) rest (kk s))
    (hA : ∀ (Q' : S → Prop) (D' : Ends), NX X Z Q' D'.nx sps .ok → BJ X Z Q' D' sp thn mA) (hB : ∀ (Q' : S → Prop) (D' : Ends), NX X Z Q' D'.nx sps .ok → BJ X Z Q' D' sp els mB) : BJ X Z Qr D sp (.If c thn els pos :: rest) ((if b then mA else mB).bi kk) := bj_ifs hc hr hA hB
/-! ### for -/
/-- a loop that may be left -/
def loopC {α S ρ : Type} : List α → S → (α → S → (S → Res ρ) → Res ρ) → (S → Res ρ) → Res ρ
  | [], s, _, k => k s
  | x :: r, s, f, k => f x s fun s' => loopC r s' f k
def foldM {α S : Type} : List α → S → (α → S → Res S) → Res S
  | [], s, _ => .ok s
  | x :: r, s, f => (f x s).bi fun s' => foldM r s' f
variable {tg it : Expr}
/-- the data that stay may grow -/
structure ZX (Z Z' : Fz) : Prop where
  f : Same Z.F0 Z'.F0
  n : ∀ a, Z'.F0 a ≠ none → Z.F0 a ≠ none ∨ Z.G a = none
  g : Z'.G = Z.G
  e : Z'.Er = Z.Er
theorem Amb.zx {Z' : Fz} (am : Amb X Z k) (z : ZX Z Z') : Amb X Z' k := ⟨am.hr, am.calm, am.nd, am.po, by rw [z.g, z.e]; exact am.ps⟩
theorem RT.zx {Z' : Fz} {R : RtE ρ} {rt : VK} (h : RT Z R Qr rt) (z : ZX Z Z') : RT Z' R Qr rt := fun r F' H' v f0 fh gh fg hr q => by
  rw [z.g] at gh hr fg
  exact h r F' H' v (z.f.trans f0) fh gh (fun a ha => by
    rcases fg a ha with x | x
    · exact z.n a x
    · exact .inr x) hr q
theorem SOk.back {Z' : Fz} (S : SOk Z' F ad sp σ H) (z : ZX Z Z') : SOk Z F ad sp σ H := by
  have g := z.g
  obtain ⟨f0, fh, gh, fg, nd, st, len, sl, olen, ob, lf⟩ := S
  rw [g] at gh fg sl ob lf
  exact ⟨z.f.trans f0, fh, gh, fun a ha => by
    rcases fg a ha with x | x
    · exact z.n a x
    · exact .inr x, nd, st, len, sl, olen, ob, lf⟩
theorem SOk.fwd (S : SOk Z F ad sp σ H) : ZX Z { Z with F0 := F } ∧ SOk { Z with F0 := F } F ad sp σ H :=
  ⟨⟨S.f0, S.fg, rfl, rfl⟩, ⟨Same.refl _, S.fh, S.gh, fun a h => .inl h, S.nd, S.st, S.len, S.sl, S.olen, S.ob, S.lf⟩⟩
theorem bj_for {S : Type} {en : Enc X.K β} {ms : Res (List β)} {is : List Nat} {bd : β → List (Sl X.K) → List (Sl X.K)} {sps : S → Spec X.K} {B : β → S → (S → Res ρ) → Res ρ} {kk : S → Res ρ} (am : Amb X Z k) (s0 : S) (hs : SJ X Z sp tg it ms en) (hg : GJ X tg en is bd) {ks : List Nat} (le : Le sp (sps s0) ks)
    (hb : ∀ Z', ZX Z Z' → ∀ y s (next : S → Res ρ) nx bk, NX X Z' Qr nx sps next → NX X Z' Qr bk sps kk → BJ X Z' Qr { D with nx := nx, ct := nx, bk := bk } ⟨bd y (sps s).sl, (sps s).ob⟩ body (B y s next))
    (hr : ∀ s, BJ X Z Qr D (sps s) rest (kk s)) (hf : ∀ x, foldedSetIterable it X.env x = pure x := by intro _; rfl) : BJ X Z Qr D sp (.For tg it body [] pos :: rest) (ms.bi fun ys => loopC ys s0 B kk) := fun F ad σ H S hm => by
  refine seq (ofS (ps_for am.po am.calm pi_w pg_w pb_w hf) ?_)
  refine hs F ad σ H _ S (hm.bi.imp fun ys q F1 H1 J n1 _ itr => ?_)
  obtain ⟨zx, S1⟩ := (S.nx n1).fwd
  refine ⟨fun i m σ' H' => m = ys.length - i ∧ i ≤ ys.length ∧ ∃ F' ad' s, SOk { Z with F0 := F1 } F' ad' (sps s) σ' H' ∧ mwp (loopC (ys.drop i) s B kk) Qr Z.Er, ?_, ?_⟩
  · obtain ⟨ad', S'⟩ := le.go _ F1 ad σ H1 S1
    exact ⟨_, rfl, Nat.zero_le _, F1, ad', s0, S', q⟩
  · rintro i m σ' H' ⟨rfl, hi, F', ad', s, S', q⟩
    obtain ⟨g1, g2⟩ := itr i F' H' S'.f0 S'.fh S'.gh
    by_cases hlt : i < ys.length
    · have hy : ys[i]? = some ys[i] := List.getElem?_eq_getElem hlt
      obtain ⟨go, yl⟩ := g1 _ hy
      rw [List.drop_eq_getElem_cons hlt] at q
      refine .inr ⟨go, fun σ2 H2 => ∃ F2 ad2 s2, SOk { Z with F0 := F1 } F2 ad2 (sps s2) σ2 H2 ∧ mwp (loopC (ys.drop (i + 1)) s2 B kk) Qr Z.Er, fun σ2 H2 ⟨F2, ad2, s2, S2, q2⟩ => ⟨ys.length - (i + 1), by omega, rfl, hlt, F2, ad2, s2, S2, q2⟩, fun x H'' hx => ?_⟩
      obtain ⟨F'', n2, rx⟩ := yl x H'' hx
      refine hg _ F'' ad' (sps s) σ' H'' x ys[i] _ (S'.nx n2) rx fun σ3 S3 _ _ => ?_
      exact hb _ zx ys[i] s (fun s' => loopC (ys.drop (i + 1)) s' B kk) _ _ (fun s2 F2 ad2 σ2 H2 S2 q2 => ⟨F2, ad2, s2, S2, q2⟩) (fun s2 F2 ad2 σ2 H2 S2 q2 => hr s2 F2 ad2 σ2 H2 (S2.back zx) q2) F'' ad' σ3 H'' S3 q
    · have e : i = ys.length := by omega
      subst e
      rw [List.drop_length] at q
      exact .inl ⟨g2 (Nat.le_refl _), hr s F' ad' σ' H' (S'.back zx) q⟩
theorem bj_for_p {S : Type} {en : Enc X.K β} {ys : List β} {is : List Nat} {bd : β → List (Sl X.K) → List (Sl X.K)} {sps : S → Spec X.K} {B : β → S → (S → Res ρ) → Res ρ} {kk : S → Res ρ} (am : Amb X Z k) (s0 : S) (hs : SJ X Z sp tg it (.ok ys) en) (hg : GJ X tg en is bd) {ks : List Nat} (le : Le sp (sps s0) ks)
    (hb : ∀ Z', ZX Z Z' → ∀ y s (next : S → Res ρ) nx bk, NX X Z' Qr nx sps next → NX X Z' Qr bk sps kk → BJ X Z' Qr { D with nx := nx, ct := nx, bk := bk } ⟨bd y (sps s).sl, (sps s).ob⟩ body (B y s next))
    (hr : ∀ s, BJ X Z Qr D (sps s) rest (kk s)) (hf : ∀ x, foldedSetIterable it X.env x = pure x := by intro _; rfl) : BJ X Z Qr D sp (.For tg it body [] pos :: rest) (loopC ys s0 B kk) := bj_for am s0 hs hg le hb hr hf
/-- a loop that is not left -/
theorem bj_fors {S : Type} {en : Enc X.K β} {ms : Res (List β)} {is : List Nat} {bd : β → List (Sl X.K) → List (Sl X.K)} {sps : S → Spec X.K} {B : β → S → Res S} {kk : S → Res ρ} (am : Amb X Z k) (s0 : S) (hs : SJ X Z sp tg it ms en) (hg : GJ X tg en is bd) {ks : List Nat} (le : Le sp (sps s0) ks)
    (hb : ∀ Z', ZX Z Z' → ∀ y s (Q' : S → Prop) (D' : Ends), NX X Z' Q' D'.nx sps .ok → BJ X Z' Q' D' ⟨bd y (sps s).sl, (sps s).ob⟩ body (B y s))
    (hr : ∀ s, BJ X Z Qr D (sps s) rest (kk s)) (hf : ∀ x, foldedSetIterable it X.env x = pure x := by intro _; rfl) : BJ X Z Qr D sp (.For tg it body [] pos :: rest) (ms.bi fun ys => (foldM ys s0 B).bi kk) := fun F ad σ H S hm => by
  refine seq (ofS (ps_for am.po am.calm pi_w pg_w pb_w hf) ?_)
  refine hs F ad σ H _ S (hm.bi.imp fun ys q F1 H1 J n1 _ itr => ?_)
  obtain ⟨zx, S1⟩ := (S.nx n1).fwd
  refine ⟨fun i m σ' H' => m = ys.length - i ∧ i ≤ ys.length ∧ ∃ F' ad' s, SOk { Z with F0 := F1 } F' ad' (sps s) σ' H' ∧ mwp ((foldM (ys.drop i) s B).bi kk) Qr Z.Er, ?_, ?_⟩
  · obtain ⟨ad', S'⟩ := le.go _ F1 ad σ H1 S1
    exact ⟨_, rfl, Nat.zero_le _, F1, ad', s0, S', q⟩
  · rintro i m σ' H' ⟨rfl, hi, F', ad', s, S', q⟩
    obtain ⟨g1, g2⟩ := itr i F' H' S'.f0 S'.fh S'.gh
    by_cases hlt : i < ys.length
    · have hy : ys[i]? = some ys[i] := List.getElem?_eq_getElem hlt
      obtain ⟨go, yl⟩ := g1 _ hy
      rw [List.drop_eq_getElem_cons hlt] at q
      have q : mwp (((B ys[i] s).bi fun s' => foldM (ys.drop (i + 1)) s' B).bi kk) Qr Z.Er := q
      rw [bi_bi] at q
      refine .inr ⟨go, fun σ2 H2 => ∃ F2 ad2 s2, SOk { Z with F0 := F1 } F2 ad2 (sps s2) σ2 H2 ∧ mwp ((foldM (ys.drop (i + 1)) s2 B).bi kk) Qr Z.Er, fun σ2 H2 ⟨F2, ad2, s2, S2, q2⟩ => ⟨ys.length - (i + 1), by omega, rfl, hlt, F2, ad2, s2, S2, q2⟩, fun x H'' hx => ?_⟩
      obtain ⟨F'', n2, rx⟩ := yl x H'' hx
      refine hg _ F'' ad' (sps s) σ' H'' x ys[i] _ (S'.nx n2) rx fun σ3 S3 _ _ => ?_
      exact hb _ zx ys[i] s (fun s' => mwp ((foldM (ys.drop (i + 1)) s' B).bi kk) Qr Z.Er) { D with nx := _, ct := _, bk := wB X rest D } (fun s2 F2 ad2 σ2 H2 S2 q2 => ⟨F2, ad2, s2, S2, q2⟩) F'' ad' σ3 H'' S3 q.bi
    · have e : i = ys.length := by omega
      subst e
      rw [List.drop_length] at q
      exact .inl ⟨g2 (Nat.le_refl _), hr s F' ad' σ' H' (S'.back zx) q⟩
theorem bj_fors_p {S : Type} {en : Enc X.K β} {ys : List β} {is : List Nat} {bd : β → List (Sl X.K) → List (Sl X.K)} {sps : S → Spec X.K} {B : β → S → Res S} {kk : S → Res ρ} (am : Amb X Z k) (s0 : S) (hs : SJ X Z sp tg it (.ok ys) en) (hg : GJ X tg en is bd) {ks : List Nat} (le : Le sp (sps s0) ks)
    (hb : ∀ Z', ZX Z Z' → ∀ y s (Q' : S → Prop) (D' : Ends), NX X Z' Q' D'.nx sps .ok → BJ X Z' Q' D' ⟨bd y (sps s).sl, (sps s).ob⟩ body (B y s))
    (hr : ∀ s, BJ X Z Qr D (sps s) rest (kk s)) (hf : ∀ x, foldedSetIterable it X.env x = pure x := by intro _; rfl) : BJ X Z Qr D sp (.For tg it body [] pos :: rest) ((foldM ys s0 B).bi kk) := bj_fors am s0 hs hg le hb hr hf
/-! ### while -/
def whileC {S ρ : Type} : Nat → S → (S → Res Bool) → (S → (S → Res ρ) → Res ρ) → (S → Res ρ) → Res ρ
  | 0, _, _, _, _ => .bad
  | n + 1, s, c, B, k => (c s).bi fun b => if b then B s (fun s' => whileC n s' c B k) else k s
def whileM {S : Type} : Nat → S → (S → Res Bool) → (S → Res S) → Res S
  | 0, _, _, _ => .bad
  | n + 1, s, c, B => (c s).bi fun b => if b then (B s).bi (fun s' => whileM n s' c B) else .ok s
theorem bj_while {S : Type} {sps : S → Spec X.K} {cm : S → Res Bool} {B : S → (S → Res ρ) → Res ρ} {kk : S → Res ρ} {c : Expr} (am : Amb X Z k) (n : Nat) (s0 : S) {ks : List Nat} (le : Le sp (sps s0) ks) (hc : ∀ s, TJ X Z (sps s) c (cm s))
    (hb : ∀ s (next : S → Res ρ) nx bk, NX X Z Qr nx sps next → NX X Z Qr bk sps kk → BJ X Z Qr { D with nx := nx, ct := nx, bk := bk } (sps s) body (B s next))
    (hr : ∀ s, BJ X Z Qr D (sps s) rest (kk s)) : BJ X Z Qr D sp (.While c body [] pos :: rest) (whileC n s0 cm B kk) := fun F ad σ H S hm => by
  refine seq (ofS (ps_while am.po pt_w pb_w) ?_)
  refine ⟨fun m σ' H' => ∃ F' ad' s, SOk Z F' ad' (sps s) σ' H' ∧ mwp (whileC m s cm B kk) Qr Z.Er, ?_, ?_⟩
  · obtain ⟨ad', S'⟩ := le.go _ F ad σ H S
    exact ⟨n, F, ad', s0, S', hm⟩
  · rintro m σ' H' ⟨F', ad', s, S', q⟩
    cases m with
    | zero => exact q.elim
    | succ m =>
      refine hc s F' ad' σ' H' _ S' (mwp.imp (mwp.bi q) fun b q F2 H2 n2 => ?_)
      cases b with
      | false => exact hr s F2 ad' σ' H2 (S'.nx n2) q
      | true =>
        refine ⟨fun σ3 H3 => ∃ F3 ad3 s3, SOk Z F3 ad3 (sps s3) σ3 H3 ∧ mwp (whileC m s3 cm B kk) Qr Z.Er, fun σ3 H3 h => ⟨m, Nat.lt_succ_self m, h⟩, ?_⟩
        exact hb s (fun s' => whileC m s' cm B kk) _ _ (fun s3 F3 ad3 σ3 H3 S3 q3 => ⟨F3, ad3, s3, S3, q3⟩) (fun s3 F3 ad3 σ3 H3 S3 q3 => hr s3 F3 ad3 σ3 H3 S3 q3) F2 ad' σ' H2 (S'.nx n2) q
theorem bj_whiles {S : Type} {sps : S → Spec X.K} {cm : S → Res Bool} {B : S → Res S} {kk : S → Res ρ} {c : Expr} (am : Amb X Z k) (n : Nat) (s0 : S) {ks : List Nat} (le : Le sp (sps s0) ks) (hc : ∀ s, TJ X Z (sps s) c (cm s))
    (hb : ∀ s (Q' : S → Prop) (D' : Ends), NX X Z Q' D'.nx sps .ok → BJ X Z Q' D' (sps s) body (B s))
    (hr : ∀ s, BJ X Z Qr D (sps s) rest (kk s)) : BJ X Z Qr D sp (.While c body [] pos :: rest) ((whileM n s0 cm B).bi kk) := fun F ad σ H S hm => by
  refine seq (ofS (ps_while am.po pt_w pb_w) ?_)
  refine ⟨fun m σ' H' => ∃ F' ad' s, SOk Z F' ad' (sps s) σ' H' ∧ mwp ((whileM m s cm B).bi kk) Qr Z.Er, ?_, ?_⟩
  · obtain ⟨ad', S'⟩ := le.go _ F ad σ H S
    exact ⟨n, F, ad', s0, S', hm⟩
  · rintro m σ' H' ⟨F', ad', s, S', q⟩
    cases m with
    | zero => exact q.elim
    | succ m =>
      have q : mwp (((cm s).bi fun b => if b then (B s).bi (fun s' => whileM m s' cm B) else .ok s).bi kk) Qr Z.Er := q
      rw [bi_bi] at q
      refine hc s F' ad' σ' H' _ S' (mwp.imp (mwp.bi q) fun b q F2 H2 n2 => ?_)
      cases b with
      | false => exact hr s F2 ad' σ' H2 (S'.nx n2) q
      | true =>
        have q : mwp (((B s).bi (fun s' => whileM m s' cm B)).bi kk) Qr Z.Er := q
        rw [bi_bi] at q
        refine ⟨fun σ3 H3 => ∃ F3 ad3 s3, SOk Z F3 ad3 (sps s3) σ3 H3 ∧ mwp ((whileM m s3 cm B).bi kk) Qr Z.Er, fun σ3 H3 h => ⟨m, Nat.lt_succ_self m, h⟩, ?_⟩
        exact hb s (fun s' => mwp ((whileM m s' cm B).bi kk) Qr Z.Er) { D with nx := _, ct := _, bk := wB X rest D } (fun s3 F3 ad3 σ3 H3 S3 q3 => ⟨F3, ad3, s3, S3, q3⟩) F2 ad' σ' H2 (S'.nx n2) q.bi
/-! ### raise -/
structure ExF (K : Frag) (mg : Str → Option Value) (x : Str) : Prop where
  ex : ∃ C, mg x = some (.ref C) ∧ PySem.W.excIn K C He.veBase "ValueError.__new__" = true ∧ PySem.W.keepIn K (.ref C) = true ∧ PySem.W.subIn K (.ref C) (.type "BaseException") = some true ∧ PySem.W.typeIn K (.ref C) = some (.type "type")
theorem bj_raise {z : Str} {jj : Nat} {pos' : Pos} (am : Amb X Z k) (ex : ExF X.K X.mg x) (hg : Gl X x := by rfl) (hdb : (x == ("__debug__" : Str)) = false := by decide) : BJ X Z Qr D sp (.Raise (some (.Call (.Name x p) [.Constant (.str z) jj p2] [] pos)) none pos' :: rest) (.exc x) := fun F ad σ H S hm => by
  obtain ⟨E, tk, hE⟩ := am.ps
  obtain ⟨C, g, q, kp, sb, ty⟩ := ex.ex
  refine seq (ofS (ps_raise am.calm tk (pmk_own PySem.F.excBase_ValueError q g kp (raises_own sb ty) hg hdb)) ?_)
  exact hE x hm C H g S.gh
end
end Wk

set_option Elab.async false
set_option linter.all false
set_option maxRecDepth 100000
set_option maxHeartbeats 4000000
namespace Wk
open PySem PySem.Spec PyProof.Rows L2
/-! ### comprehensions -/
def compM {α β : Type} : List β → (β → Res Bool) → (β → Res α) → Res (List α)
  | [], _, _ => .ok []
  | y :: r, c, f => (c y).nx.bi fun b => if b then (f y).nx.bi fun z => (compM r c f).bi fun zs => .ok (z :: zs) else compM r c f
def mapMx {α β : Type} : List β → (β → Res α) → Res (List α)
  | [], _ => .ok []
  | y :: r, f => (f y).nx.bi fun z => (mapMx r f).bi fun zs => .ok (z :: zs)
theorem mapMx_ok {α β : Type} (g : β → α) : ∀ ys : List β, mapMx ys (fun y => .ok (g y)) = .ok (ys.map g)
  | [] => rfl
  | y :: r => by
    show (mapMx r fun y => .ok (g y)).bi _ = _
    rw [mapMx_ok g r]
    rfl
theorem compM_ok {α β : Type} (c : β → Bool) (g : β → α) : ∀ ys : List β, compM ys (fun y => .ok (c y)) (fun y => .ok (g y)) = .ok ((ys.filter c).map g)
  | [] => rfl
  | y :: r => by
    show (if c y then (compM r (fun y => .ok (c y)) fun y => .ok (g y)).bi _ else compM r (fun y => .ok (c y)) fun y => .ok (g y)) = _
    rw [compM_ok c g r, List.filter_cons]
    cases c y <;> rfl
theorem compM_map {α β : Type} (f : β → Res α) : ∀ ys : List β, compM ys (fun _ => .ok true) f = mapMx ys f
  | [] => rfl
  | y :: r => by
    show (f y).nx.bi _ = (f y).nx.bi _
    rw [compM_map f r]
section
variable {X : Cx} {Z : Fz} {sp : Spec X.K} {a b c e : Expr} {es : List Expr} {pos p p2 fp : Pos} {α β γ ρ : Type} {k j : Nat} {x : Str} {F F' H H' : Hp} {ad : List Addr} {σ : Sg}
def wipeS {K : Frag} (sl : List (Sl K)) : List Nat → List (Sl K)
  | [] => sl
  | v :: vs => (wipeS sl vs).set v .any
theorem SOk.drop1 {K : Frag} {sp : Spec K} (i : Nat) (S : SOk Z F ad sp σ H) : SOk Z F ad ⟨sp.sl.set i .any, sp.ob⟩ (σ.set i none) H := by
  refine ⟨S.f0, S.fh, S.gh, S.fg, S.nd, S.st, by simp [S.len], fun j t e => ?_, S.olen, S.ob, S.lf⟩
  have e : (sp.sl.set i .any)[j]? = some t := e
  by_cases hj : j = i
  · subst hj
    have hl : j < sp.sl.length := by
      have := getElem?_some_of e
      simpa using this
    rw [List.getElem?_set_self hl] at e
    cases e
    exact ⟨none, by rw [List.getElem?_set_self (by rw [← S.len]; exact hl)], trivial⟩
  · rw [List.getElem?_set_ne (Ne.symm hj)] at e
    obtain ⟨o, h1, h2⟩ := S.sl j t e
    exact ⟨o, by rw [List.getElem?_set_ne (Ne.symm hj)]; exact h1, h2⟩
theorem SOk.wipe {K : Frag} {sp : Spec K} (S : SOk Z F ad sp σ H) : ∀ vs : List Nat, SOk Z F ad ⟨wipeS sp.sl vs, sp.ob⟩ (L2.wipe σ vs) H
  | [] => S
  | v :: vs => (SOk.wipe S vs).drop1 v
theorem wipe_get {σ : Sg} {i : Nat} : ∀ {vs : List Nat}, (L2.wipe σ vs)[i]? = if i ∈ vs ∧ i < σ.length then some none else σ[i]?
  | [] => by simp [L2.wipe]
  | v :: vs => by
    unfold L2.wipe
    by_cases h : v = i
    · subst h
      by_cases hl : v < σ.length
      · rw [List.getElem?_set_self (by rw [wipe_length]; exact hl), if_pos ⟨List.mem_cons_self .., hl⟩]
      · rw [List.getElem?_eq_none (by rw [List.length_set, wipe_length]; omega), if_neg (fun z => hl z.2), List.getElem?_eq_none (by omega)]
    · rw [List.getElem?_set_ne h, wipe_get (vs := vs)]
      simp only [List.mem_cons, show (i = v) = False from eq_false (Ne.symm h), false_or]
theorem wipe_eq {σ σ' : Sg} {vs : List Nat} (hl : σ'.length = σ.length) (h : ∀ i, i ∉ vs → σ'[i]? = σ[i]?) : L2.wipe σ' vs = L2.wipe σ vs := by
  refine List.ext_getElem? fun i => ?_
  rw [wipe_get, wipe_get, hl]
  by_cases hi : i ∈ vs
  · by_cases hlt : i < σ.length
    · rw [if_pos ⟨hi, hlt⟩, if_pos ⟨hi, hlt⟩]
    · rw [if_neg (fun z => hlt z.2), if_neg (fun z => hlt z.2), List.getElem?_eq_none (by omega), List.getElem?_eq_none (by omega)]
  · rw [if_neg (fun z => hi z.1), if_neg (fun z => hi z.1), h i hi]
variable {elt tg iter : Expr} {scope : Scope} {own : List (Str × Nat)}
/-- a block's context -/
abbrev blkX (X : Cx) (scope : Scope) (s : Shared) (H : Hp) (C : Addr) (cl : List (Str × Addr)) (fp : List Addr) : Cx := X.blk s H scope (compEnvC scope cl C X.env) fp
abbrev Fz.mute (Z : Fz) : Fz := { Z with Er := fun _ => False }
theorem Amb.blk (am : Amb X Z k) (s : Shared) (H : Hp) (C : Addr) (cl : List (Str × Addr)) (fp : List Addr) : Amb (blkX X scope s H C cl fp) Z.mute k :=
  ⟨am.hr, am.calm, am.nd, PassesOwn.never, fun _ _ _ => False, takes0, fun _ h => h.elim⟩
def gAll (X : Cx) (scope : Scope) (tg : Expr) : TG := fun v σ H Q => ∀ s H0 C cl fp, wG (blkX X scope s H0 C cl fp) tg v σ H Q
def eAll (X : Cx) (scope : Scope) (e : Expr) : TE := fun σ H Q => ∀ s H0 C cl fp, wE (blkX X scope s H0 C cl fp) e σ H Q
def tAll (X : Cx) (scope : Scope) (e : Expr) : TT := fun σ H Q => ∀ s H0 C cl fp, wT (blkX X scope s H0 C cl fp) e σ H Q
/-- the state in a block's turn -/
abbrev blkS (sp : Spec X.K) (own : List (Str × Nat)) (bd : β → List (Sl X.K) → List (Sl X.K)) (y : β) : Spec X.K := ⟨bd y (wipeS sp.sl (own.map (·.2))), sp.ob⟩
theorem lc_ok {en : Enc X.K β} {en' : Enc X.K α} {m : Res (List β)} {is : List Nat} {bd : β → List (Sl X.K) → List (Sl X.K)} {cm : β → Res Bool} {me : β → Res α} {tt : TT} (hs : SJ X Z sp tg iter m en)
    (hg : ∀ s H C cl fp, GJ (blkX X scope s H C cl fp) tg en is bd) (hi : ∀ i ∈ is, i ∈ own.map (·.2))
    (hc : ∀ y F ad σ H (Q : Bool → Hp → Prop), SOk Z.mute F ad (blkS sp own bd y) σ H → mwp (cm y) (fun b => ∀ F' H', Nx F H F' H' → Q b H') (fun _ => False) → tt σ H Q)
    (he : ∀ y s H C cl fp, EJ (blkX X scope s H C cl fp) Z.mute (blkS sp own bd y) elt (me y) en')
    (F : Hp) (ad : List Addr) (σ : Sg) (H : Hp) (Q : VK) (S : SOk Z F ad sp σ H) (hm : mwp (m.bi fun ys => compM ys cm me) (fun xs => ∀ F' H' p vs, Nx F H F' H' → H p = none → F' p = none → H' p = some (.lst vs) → vs.length ≤ sizeLine → Reps en' F' vs xs → Q (.ref p) H') Z.Er) :
    tLc (wI X tg iter) (gAll X scope tg) tt (eAll X scope elt) (own.map (·.2)) σ H Q := by
  refine hs F ad σ H _ S (hm.bi.imp fun ys q F1 H1 J n1 hz itr => fun D hD => ?_)
  obtain ⟨g1, g2⟩ := n1.free hD
  refine ⟨fun i m Hc => m = ys.length - i ∧ i ≤ ys.length ∧ ∃ F' acc zs, F' D = none ∧ Hc D = some (.lst acc) ∧ acc.length ≤ i ∧ Reps en' F' acc zs ∧ Nx F1 H1 F' Hc ∧
    mwp (compM (ys.drop i) cm me) (fun rest => ∀ F' H' p vs, Nx F H F' H' → H p = none → F' p = none → H' p = some (.lst vs) → vs.length ≤ sizeLine → Reps en' F' vs (zs ++ rest) → Q (.ref p) H') Z.Er, ?_, ?_⟩
  · exact ⟨_, rfl, Nat.zero_le _, F1, [], [], g2, upd_same, Nat.le_refl _, .nil, (Nx.new ⟨Same.refl _, Same.refl _, n1.fh, fun _ h => .inl h⟩ hD), q⟩
  · rintro i m Hc ⟨rfl, hil, F', acc, zs, hF, hH, hal, hr, nn, q⟩
    have gh := S.gh.trans (n1.hh.trans nn.hh)
    obtain ⟨t1, t2⟩ := itr i F' Hc nn.ff nn.fh gh
    by_cases hlt : i < ys.length
    · have hy : ys[i]? = some ys[i] := List.getElem?_eq_getElem hlt
      obtain ⟨go, yl⟩ := t1 _ hy
      rw [List.drop_eq_getElem_cons hlt] at q
      refine .inr ⟨go, fun Hd => ∃ F' acc zs, F' D = none ∧ Hd D = some (.lst acc) ∧ acc.length ≤ i + 1 ∧ Reps en' F' acc zs ∧ Nx F1 H1 F' Hd ∧
        mwp (compM (ys.drop (i + 1)) cm me) (fun rest => ∀ F' H' p vs, Nx F H F' H' → H p = none → F' p = none → H' p = some (.lst vs) → vs.length ≤ sizeLine → Reps en' F' vs (zs ++ rest) → Q (.ref p) H') Z.Er, fun Hd h => ⟨ys.length - (i + 1), by omega, rfl, hlt, h⟩, fun x H'' hx => ?_⟩
      obtain ⟨F2, n2, rx⟩ := yl x H'' hx
      have nnn := nn.trans n2
      have hF2 := n2.non hF (by rw [hH]; exact fun z => nomatch z)
      have hH2 := n2.hh _ _ hH
      have S2 := ((S.nx (n1.trans nnn)).wipe (own.map (·.2))).er (Er := fun _ => False)
      intro s H0 C cl fp
      refine hg s H0 C cl fp _ F2 ad _ _ H'' x ys[i] _ S2 rx fun σ3 S3 k1 k2 => ⟨?_, ?_⟩
      · rw [wipe_eq (σ := L2.wipe σ (own.map (·.2))) k1 fun i hi' => k2 i fun z => hi' (hi i z)]
        refine List.ext_getElem? fun i => ?_
        rw [wipe_get, wipe_get, wipe_length]
        split <;> rfl
      · refine hc ys[i] F2 ad σ3 H'' _ S3 ((mwp.nx (mwp.bi q)).imp fun b q F3 H3 n3 => ?_)
        have hF3 := n3.non hF2 (by rw [hH2]; exact fun z => nomatch z)
        have hH3 := n3.hh _ _ hH2
        cases b with
        | false => exact ⟨F3, acc, zs, hF3, hH3, by omega, hr.mono (n2.trans n3).ff, nnn.trans n3, q⟩
        | true =>
          rw [if_pos rfl]
          rw [if_pos rfl] at q
          intro s H0 C cl fp
          refine he ys[i] s H0 C cl fp F3 ad σ3 H3 _ (S3.nx n3) ((mwp.nx (mwp.bi q)).imp fun z q F4 H4 v n4 rv => ?_)
          have hF4 := n4.non hF3 (by rw [hH3]; exact fun z => nomatch z)
          have hH4 := n4.hh _ _ hH3
          have nf := (nnn.trans n3).trans n4
          refine ⟨acc, hH4, Nat.lt_of_le_of_lt hal (Nat.lt_of_lt_of_le hlt hz), F4, acc ++ [v], zs ++ [z], hF4, upd_same, by rw [List.length_append, List.length_singleton]; omega, (hr.mono ((n2.trans n3).trans n4).ff).snoc rv, ?_, ?_⟩
          · refine ⟨nf.ff, fun b o h => ?_, fun b o h => ?_, nf.nw⟩
            · rw [upd_ne (ne_of_none h hD)]
              exact nf.hh b o h
            · rw [upd_ne (ne_of_none h hF4)]
              exact nf.fh b o h
          · refine (mwp.bi q).imp fun rest q F' H' p vs n h1 h2 h3 hz' h4 => q F' H' p vs n h1 h2 h3 hz' ?_
            rw [List.append_assoc] at h4
            exact h4
    · have e : i = ys.length := by omega
      subst e
      rw [List.drop_length] at q
      have q : ∀ F' H' p vs, Nx F H F' H' → H p = none → F' p = none → H' p = some (.lst vs) → vs.length ≤ sizeLine → Reps en' F' vs (zs ++ []) → Q (.ref p) H' := q
      rw [List.append_nil] at q
      exact .inl ⟨t2 (Nat.le_refl _), q F' Hc D acc (n1.trans nn) g1 hF hH (Nat.le_trans hal hz) hr⟩
theorem pgAll (s : Shared) (H : Hp) (C : Addr) (cl : List (Str × Addr)) (fp : List Addr) : PG (X.blk s H scope (compEnvC scope cl C X.env) fp) tg (gAll X scope tg) := ⟨fun pins s' σ H' v u Q I r h => pg_w.run pins s' σ H' v u Q I r (h s H C cl fp)⟩
theorem peAll (s : Shared) (H : Hp) (C : Addr) (cl : List (Str × Addr)) (fp : List Addr) : PE (X.blk s H scope (compEnvC scope cl C X.env) fp) elt (eAll X scope elt) := ⟨fun pins s' σ H' Q I h => pe_w.run pins s' σ H' Q I (h s H C cl fp)⟩
theorem ptAll (s : Shared) (H : Hp) (C : Addr) (cl : List (Str × Addr)) (fp : List Addr) : PTs (X.blk s H scope (compEnvC scope cl C X.env) fp) [c] (tAll X scope c) := pts_one ⟨fun pins s' σ H' Q I h => pt_w.run pins s' σ H' Q I (h s H C cl fp)⟩
/-- [elt for tg in iter] -/
theorem fj_lc {en : Enc X.K β} {en' : Enc X.K α} {m : Res (List β)} {is : List Nat} {bd : β → List (Sl X.K) → List (Sl X.K)} {me : β → Res α} (am : Amb X Z k) (ok : BlkOk X.N X.env.scope scope own) (hs : SJ X Z sp tg iter m en)
    (hg : ∀ s H C cl fp, GJ (blkX X scope s H C cl fp) tg en is bd) (he : ∀ y s H C cl fp, EJ (blkX X scope s H C cl fp) Z.mute (blkS sp own bd y) elt (me y) en') (hi : ∀ i ∈ is, i ∈ own.map (·.2) := by decide)
    (hf : ∀ x, foldedSetIterable iter X.env x = pure x := by intro _; rfl) : FJ X Z sp (.ListComp elt [⟨tg, iter, [], 0⟩] scope pos) (m.bi fun ys => mapMx ys me) en' := fun F ad σ H Q S hm => by
  refine ofE (pe_lc am.calm am.nd pi_w ok pgAll (fun _ _ _ _ _ => pts_nil) peAll hf) ?_
  refine lc_ok (cm := fun _ => .ok true) hs hg hi (fun y F ad σ H Q S h => h F H S.refl) he F ad σ H Q S ?_
  rw [show (fun ys => compM ys (fun _ => .ok true) me) = (fun ys => mapMx ys me) from funext fun ys => compM_map me ys]
  exact hm
theorem fj_lc_p {en : Enc X.K β} {en' : Enc X.K α} {m : Res (List β)} {is : List Nat} {bd : β → List (Sl X.K) → List (Sl X.K)} {g : β → α} (am : Amb X Z k) (ok : BlkOk X.N X.env.scope scope own) (hs : SJ X Z sp tg iter m en)
    (hg : ∀ s H C cl fp, GJ (blkX X scope s H C cl fp) tg en is bd) (he : ∀ y s H C cl fp, EJ (blkX X scope s H C cl fp) Z.mute (blkS sp own bd y) elt (.ok (g y)) en') (hi : ∀ i ∈ is, i ∈ own.map (·.2) := by decide)
    (hf : ∀ x, foldedSetIterable iter X.env x = pure x := by intro _; rfl) : FJ X Z sp (.ListComp elt [⟨tg, iter, [], 0⟩] scope pos) (m.bi fun ys => .ok (ys.map g)) en' := fun F ad σ H Q S hm => by
  refine fj_lc am ok hs hg he hi hf F ad σ H Q S ?_
  rw [show (fun ys => mapMx ys fun y => .ok (g y)) = (fun ys => .ok (ys.map g)) from funext fun ys => mapMx_ok g ys]
  exact hm
/-- [elt for tg in iter if c] -/
theorem fj_lcif {en : Enc X.K β} {en' : Enc X.K α} {m : Res (List β)} {is : List Nat} {bd : β → List (Sl X.K) → List (Sl X.K)} {cm : β → Res Bool} {me : β → Res α} (am : Amb X Z k) (ok : BlkOk X.N X.env.scope scope own) (hs : SJ X Z sp tg iter m en)
    (hg : ∀ s H C cl fp, GJ (blkX X scope s H C cl fp) tg en is bd) (hc : ∀ y s H C cl fp, TJ (blkX X scope s H C cl fp) Z.mute (blkS sp own bd y) c (cm y)) (he : ∀ y s H C cl fp, EJ (blkX X scope s H C cl fp) Z.mute (blkS sp own bd y) elt (me y) en') (hi : ∀ i ∈ is, i ∈ own.map (·.2) := by decide)
    (hf : ∀ x, foldedSetIterable iter X.env x = pure x := by intro _; rfl) : FJ X Z sp (.ListComp elt [⟨tg, iter, [c], 0⟩] scope pos) (m.bi fun ys => compM ys cm me) en' := fun F ad σ H Q S hm => by
  refine ofE (pe_lc am.calm am.nd pi_w ok pgAll ptAll peAll hf) ?_
  exact lc_ok hs hg hi (fun y F ad σ H Q S h s H0 C cl fp => hc y s H0 C cl fp F ad σ H Q S h) he F ad σ H Q S hm
theorem fj_lcif_p {en : Enc X.K β} {en' : Enc X.K α} {m : Res (List β)} {is : List Nat} {bd : β → List (Sl X.K) → List (Sl X.K)} {cb : β → Bool} {g : β → α} (am : Amb X Z k) (ok : BlkOk X.N X.env.scope scope own) (hs : SJ X Z sp tg iter m en)
    (hg : ∀ s H C cl fp, GJ (blkX X scope s H C cl fp) tg en is bd) (hc : ∀ y s H C cl fp, TJ (blkX X scope s H C cl fp) Z.mute (blkS sp own bd y) c (.ok (cb y))) (he : ∀ y s H C cl fp, EJ (blkX X scope s H C cl fp) Z.mute (blkS sp own bd y) elt (.ok (g y)) en') (hi : ∀ i ∈ is, i ∈ own.map (·.2) := by decide)
    (hf : ∀ x, foldedSetIterable iter X.env x = pure x := by intro _; rfl) : FJ X Z sp (.ListComp elt [⟨tg, iter, [c], 0⟩] scope pos) (m.bi fun ys => .ok ((ys.filter cb).map g)) en' := fun F ad σ H Q S hm => by
  refine fj_lcif am ok hs hg hc he hi hf F ad σ H Q S ?_
  rw [show (fun ys => compM ys (fun y => .ok (cb y)) fun y => .ok (g y)) = (fun ys => .ok ((ys.filter cb).map g)) from funext fun ys => compM_ok cb g ys]
  exact hm
variable {Qr : ρ → Prop} {D : Ends} {rest : List Stmt} {m : Res ρ}
/-- y = [..] -/
theorem set_lc {en : Enc X.K β} {en' : Enc X.K α} {ms : Res (List β)} {is : List Nat} {bd : β → List (Sl X.K) → List (Sl X.K)} {cm : β → Res Bool} {me : β → Res α} {tt : TT} {ifs : List Expr} {i : Nat} {y : Str} {py spos : Pos} (am : Amb X Z k) (ok : BlkOk X.N X.env.scope scope own) (hs : SJ X Z sp tg iter ms en)
    (hg : ∀ s H C cl fp, GJ (blkX X scope s H C cl fp) tg en is bd) (ht : ∀ (s : Shared) (H : Hp) (C : Addr) (cl : List (Str × Addr)) (fp : List Addr), PTs (X.blk s H scope (compEnvC scope cl C X.env) fp) ifs tt)
    (hc : ∀ y F ad σ H (Q : Bool → Hp → Prop), SOk Z.mute F ad (blkS sp own bd y) σ H → mwp (cm y) (fun b => ∀ F' H', Nx F H F' H' → Q b H') (fun _ => False) → tt σ H Q)
    (he : ∀ y s H C cl fp, EJ (blkX X scope s H C cl fp) Z.mute (blkS sp own bd y) elt (me y) en') (hi : ∀ i ∈ is, i ∈ own.map (·.2)) (hy : X.N[i]? = some y) (hyl : X.env.scope.names.lookup y = some .local)
    (hsw : swapsWith (.ListComp elt [⟨tg, iter, ifs, 0⟩] scope pos) (some (.Name y py)) spos.line X.env = pure true) (hf : ∀ x, foldedSetIterable iter X.env x = pure x)
    (F : Hp) (ad : List Addr) (σ : Sg) (H : Hp) (S : SOk Z F ad sp σ H) (hm : mwp (ms.bi fun ys => compM ys cm me) (fun xs => ∀ F' H' p vs, Nx F H F' H' → H p = none → F' p = none → H' p = some (.lst vs) → vs.length ≤ sizeLine → Reps en' F' vs xs → wB X rest D (σ.set i (some (.ref p))) H') Z.Er) :
    wB X (.Assign [.Name y py] (.ListComp elt [⟨tg, iter, ifs, 0⟩] scope pos) spos :: rest) D σ H := by
  refine seq (ofS (ps_setLc am.calm am.nd hy hyl hsw pi_w ok pgAll ht peAll hf) ?_)
  exact lc_ok hs hg hi hc he F ad σ H (fun v H1 => gName i v σ H1 (wB X rest D)) S hm
/-- .. to be changed -/
theorem bj_lcO {en : Enc X.K β} {en' : Enc X.K α} {ms : Res (List β)} {is : List Nat} {bd : β → List (Sl X.K) → List (Sl X.K)} {me : β → Res α} {kk : List α → Res ρ} {i : Nat} {y : Str} {py spos : Pos} (am : Amb X Z k) (ok : BlkOk X.N X.env.scope scope own) (hs : SJ X Z sp tg iter ms en)
    (hg : ∀ s H C cl fp, GJ (blkX X scope s H C cl fp) tg en is bd) (he : ∀ y s H C cl fp, EJ (blkX X scope s H C cl fp) Z.mute (blkS sp own bd y) elt (me y) en') (hr : ∀ v, BJ X Z Qr D ⟨sp.sl.set i (.own sp.ob.length), sp.ob ++ [.lst none en' v]⟩ rest (kk v)) (hi : ∀ i ∈ is, i ∈ own.map (·.2) := by decide) (hy : X.N[i]? = some y := by rfl) (hyl : X.env.scope.names.lookup y = some .local := by rfl)
    (hsw : swapsWith (.ListComp elt [⟨tg, iter, [], 0⟩] scope pos) (some (.Name y py)) spos.line X.env = pure true := by exact sw_true rfl rfl rfl (by decide +kernel)) (hf : ∀ x, foldedSetIterable iter X.env x = pure x := by intro _; rfl) :
    BJ X Z Qr D sp (.Assign [.Name y py] (.ListComp elt [⟨tg, iter, [], 0⟩] scope pos) spos :: rest) ((ms.bi fun ys => mapMx ys me).bi kk) := fun F ad σ H S hm => by
  refine set_lc (cm := fun _ => .ok true) am ok hs hg (fun _ _ _ _ _ => pts_nil) (fun y F ad σ H Q S h => h F H S.refl) he hi hy hyl hsw hf F ad σ H S ?_
  rw [show (fun ys => compM ys (fun _ => .ok true) me) = (fun ys => mapMx ys me) from funext fun ys => compM_map me ys]
  exact hm.bi.imp fun v q F' H' p vs n h1 h2 h3 hz h4 => hr v F' (ad ++ [p]) _ H' ((S.push n h1 h2 h3 hz h4).set ⟨p, by rw [S.olen]; simp, rfl⟩) q
/-- .. to stay -/
theorem bj_lcF {en : Enc X.K β} {en' : Enc X.K α} {ms : Res (List β)} {is : List Nat} {bd : β → List (Sl X.K) → List (Sl X.K)} {me : β → Res α} {kk : List α → Res ρ} {i : Nat} {y : Str} {py spos : Pos} (am : Amb X Z k) (ok : BlkOk X.N X.env.scope scope own) (hs : SJ X Z sp tg iter ms en)
    (hg : ∀ s H C cl fp, GJ (blkX X scope s H C cl fp) tg en is bd) (he : ∀ y s H C cl fp, EJ (blkX X scope s H C cl fp) Z.mute (blkS sp own bd y) elt (me y) en') (hr : ∀ v, BJ X Z Qr D ⟨sp.sl.set i (.val (eL en') v), sp.ob⟩ rest (kk v)) (hi : ∀ i ∈ is, i ∈ own.map (·.2) := by decide) (hy : X.N[i]? = some y := by rfl) (hyl : X.env.scope.names.lookup y = some .local := by rfl)
    (hsw : swapsWith (.ListComp elt [⟨tg, iter, [], 0⟩] scope pos) (some (.Name y py)) spos.line X.env = pure true := by exact sw_true rfl rfl rfl (by decide +kernel)) (hf : ∀ x, foldedSetIterable iter X.env x = pure x := by intro _; rfl) :
    BJ X Z Qr D sp (.Assign [.Name y py] (.ListComp elt [⟨tg, iter, [], 0⟩] scope pos) spos :: rest) ((ms.bi fun ys => mapMx ys me).bi kk) := fun F ad σ H S hm => by
  refine set_lc (cm := fun _ => .ok true) am ok hs hg (fun _ _ _ _ _ => pts_nil) (fun y F ad σ H Q S h => h F H S.refl) he hi hy hyl hsw hf F ad σ H S ?_
  rw [show (fun ys => compM ys (fun _ => .ok true) me) = (fun ys => mapMx ys me) from funext fun ys => compM_map me ys]
  exact hm.bi.imp fun v q F' H' p vs n h1 h2 h3 hz h4 => hr v _ ad _ H' ((S.nx (n.fix h1 h2 h3)).set ⟨.ref p, rfl, p, vs, rfl, upd_same, hz, h4.mono (same_upd h2)⟩) q
theorem bj_lcO_p {en : Enc X.K β} {en' : Enc X.K α} {ms : Res (List β)} {is : List Nat} {bd : β → List (Sl X.K) → List (Sl X.K)} {g : β → α} {kk : List α → Res ρ} {i : Nat} {y : Str} {py spos : Pos} (am : Amb X Z k) (ok : BlkOk X.N X.env.scope scope own) (hs : SJ X Z sp tg iter ms en)
    (hg : ∀ s H C cl fp, GJ (blkX X scope s H C cl fp) tg en is bd) (he : ∀ y s H C cl fp, EJ (blkX X scope s H C cl fp) Z.mute (blkS sp own bd y) elt (.ok (g y)) en') (hr : ∀ v, BJ X Z Qr D ⟨sp.sl.set i (.own sp.ob.length), sp.ob ++ [.lst none en' v]⟩ rest (kk v)) (hi : ∀ i ∈ is, i ∈ own.map (·.2) := by decide) (hy : X.N[i]? = some y := by rfl) (hyl : X.env.scope.names.lookup y = some .local := by rfl)
    (hsw : swapsWith (.ListComp elt [⟨tg, iter, [], 0⟩] scope pos) (some (.Name y py)) spos.line X.env = pure true := by exact sw_true rfl rfl rfl (by decide +kernel)) (hf : ∀ x, foldedSetIterable iter X.env x = pure x := by intro _; rfl) :
    BJ X Z Qr D sp (.Assign [.Name y py] (.ListComp elt [⟨tg, iter, [], 0⟩] scope pos) spos :: rest) ((ms.bi fun ys => .ok (ys.map g)).bi kk) := fun F ad σ H S hm => bj_lcO am ok hs hg he hr hi hy hyl hsw hf F ad σ H S (by
  rw [show (fun ys => mapMx ys fun y => .ok (g y)) = (fun ys => .ok (ys.map g)) from funext fun ys => mapMx_ok g ys]
  exact hm)
theorem bj_lcF_p {en : Enc X.K β} {en' : Enc X.K α} {ms : Res (List β)} {is : List Nat} {bd : β → List (Sl X.K) → List (Sl X.K)} {g : β → α} {kk : List α → Res ρ} {i : Nat} {y : Str} {py spos : Pos} (am : Amb X Z k) (ok : BlkOk X.N X.env.scope scope own) (hs : SJ X Z sp tg iter ms en)
    (hg : ∀ s H C cl fp, GJ (blkX X scope s H C cl fp) tg en is bd) (he : ∀ y s H C cl fp, EJ (blkX X scope s H C cl fp) Z.mute (blkS sp own bd y) elt (.ok (g y)) en') (hr : ∀ v, BJ X Z Qr D ⟨sp.sl.set i (.val (eL en') v), sp.ob⟩ rest (kk v)) (hi : ∀ i ∈ is, i ∈ own.map (·.2) := by decide) (hy : X.N[i]? = some y := by rfl) (hyl : X.env.scope.names.lookup y = some .local := by rfl)
    (hsw : swapsWith (.ListComp elt [⟨tg, iter, [], 0⟩] scope pos) (some (.Name y py)) spos.line X.env = pure true := by exact sw_true rfl rfl rfl (by decide +kernel)) (hf : ∀ x, foldedSetIterable iter X.env x = pure x := by intro _; rfl) :
    BJ X Z Qr D sp (.Assign [.Name y py] (.ListComp elt [⟨tg, iter, [], 0⟩] scope pos) spos :: rest) ((ms.bi fun ys => .ok (ys.map g)).bi kk) := fun F ad σ H S hm => bj_lcF am ok hs hg he hr hi hy hyl hsw hf F ad σ H S (by
  rw [show (fun ys => mapMx ys fun y => .ok (g y)) = (fun ys => .ok (ys.map g)) from funext fun ys => mapMx_ok g ys]
  exact hm)
theorem bj_lcifO {en : Enc X.K β} {en' : Enc X.K α} {ms : Res (List β)} {is : List Nat} {bd : β → List (Sl X.K) → List (Sl X.K)} {cm : β → Res Bool} {me : β → Res α} {kk : List α → Res ρ} {i : Nat} {y : Str} {py spos : Pos} (am : Amb X Z k) (ok : BlkOk X.N X.env.scope scope own) (hs : SJ X Z sp tg iter ms en)
    (hg : ∀ s H C cl fp, GJ (blkX X scope s H C cl fp) tg en is bd) (hc : ∀ y s H C cl fp, TJ (blkX X scope s H C cl fp) Z.mute (blkS sp own bd y) c (cm y)) (he : ∀ y s H C cl fp, EJ (blkX X scope s H C cl fp) Z.mute (blkS sp own bd y) elt (me y) en') (hr : ∀ v, BJ X Z Qr D ⟨sp.sl.set i (.own sp.ob.length), sp.ob ++ [.lst none en' v]⟩ rest (kk v)) (hi : ∀ i ∈ is, i ∈ own.map (·.2) := by decide) (hy : X.N[i]? = some y := by rfl) (hyl : X.env.scope.names.lookup y = some .local := by rfl)
    (hsw : swapsWith (.ListComp elt [⟨tg, iter, [c], 0⟩] scope pos) (some (.Name y py)) spos.line X.env = pure true := by exact sw_true rfl rfl rfl (by decide +kernel)) (hf : ∀ x, foldedSetIterable iter X.env x = pure x := by intro _; rfl) :
    BJ X Z Qr D sp (.Assign [.Name y py] (.ListComp elt [⟨tg, iter, [c], 0⟩] scope pos) spos :: rest) ((ms.bi fun ys => compM ys cm me).bi kk) := fun F ad σ H S hm => by
  refine set_lc am ok hs hg ptAll (fun y F ad σ H Q S h s H0 C cl fp => hc y s H0 C cl fp F ad σ H Q S h) he hi hy hyl hsw hf F ad σ H S ?_
  exact hm.bi.imp fun v q F' H' p vs n h1 h2 h3 hz h4 => hr v F' (ad ++ [p]) _ H' ((S.push n h1 h2 h3 hz h4).set ⟨p, by rw [S.olen]; simp, rfl⟩) q
theorem bj_lcifF {en : Enc X.K β} {en' : Enc X.K α} {ms : Res (List β)} {is : List Nat} {bd : β → List (Sl X.K) → List (Sl X.K)} {cm : β → Res Bool} {me : β → Res α} {kk : List α → Res ρ} {i : Nat} {y : Str} {py spos : Pos} (am : Amb X Z k) (ok : BlkOk X.N X.env.scope scope own) (hs : SJ X Z sp tg iter ms en)
    (hg : ∀ s H C cl fp, GJ (blkX X scope s H C cl fp) tg en is bd) (hc : ∀ y s H C cl fp, TJ (blkX X scope s H C cl fp) Z.mute (blkS sp own bd y) c (cm y)) (he : ∀ y s H C cl fp, EJ (blkX X scope s H C cl fp) Z.mute (blkS sp own bd y) elt (me y) en') (hr : ∀ v, BJ X Z Qr D ⟨sp.sl.set i (.val (eL en') v), sp.ob⟩ rest (kk v)) (hi : ∀ i ∈ is, i ∈ own.map (·.2) := by decide) (hy : X.N[i]? = some y := by rfl) (hyl : X.env.scope.names.lookup y = some .local := by rfl)
    (hsw : swapsWith (.ListComp elt [⟨tg, iter, [c], 0⟩] scope pos) (some (.Name y py)) spos.line X.env = pure true := by exact sw_true rfl rfl rfl (by decide +kernel)) (hf : ∀ x, foldedSetIterable iter X.env x = pure x := by intro _; rfl) :
    BJ X Z Qr D sp (.Assign [.Name y py] (.ListComp elt [⟨tg, iter, [c], 0⟩] scope pos) spos :: rest) ((ms.bi fun ys => compM ys cm me).bi kk) := fun F ad σ H S hm => by
  refine set_lc am ok hs hg ptAll (fun y F ad σ H Q S h s H0 C cl fp => hc y s H0 C cl fp F ad σ H Q S h) he hi hy hyl hsw hf F ad σ H S ?_
  exact hm.bi.imp fun v q F' H' p vs n h1 h2 h3 hz h4 => hr v _ ad _ H' ((S.nx (n.fix h1 h2 h3)).set ⟨.ref p, rfl, p, vs, rfl, upd_same, hz, h4.mono (same_upd h2)⟩) q
theorem bj_lcifO_p {en : Enc X.K β} {en' : Enc X.K α} {ms : Res (List β)} {is : List Nat} {bd : β → List (Sl X.K) → List (Sl X.K)} {cb : β → Bool} {g : β → α} {kk : List α → Res ρ} {i : Nat} {y : Str} {py spos : Pos} (am : Amb X Z k) (ok : BlkOk X.N X.env.scope scope own) (hs : SJ X Z sp tg iter ms en)
    (hg : ∀ s H C cl fp, GJ (blkX X scope s H C cl fp) tg en is bd) (hc : ∀ y s H C cl fp, TJ (blkX X scope s H C cl fp) Z.mute (blkS sp own bd y) c (.ok (cb y))) (he : ∀ y s H C cl fp, EJ (blkX X scope s H C cl fp) Z.mute (blkS sp own bd y) elt (.ok (g y)) en') (hr : ∀ v, BJ X Z Qr D ⟨sp.sl.set i (.own sp.ob.length), sp.ob ++ [.lst none en' v]⟩ rest (kk v)) (hi : ∀ i ∈ is, i ∈ own.map (·.2) := by decide) (hy : X.N[i]? = some y := by rfl) (hyl : X.env.scope.names.lookup y = some .local := by rfl)
    (hsw : swapsWith (.ListComp elt [⟨tg, iter, [c], 0⟩] scope pos) (some (.Name y py)) spos.line X.env = pure true := by exact sw_true rfl rfl rfl (by decide +kernel)) (hf : ∀ x, foldedSetIterable iter X.env x = pure x := by intro _; rfl) :
    BJ X Z Qr D sp (.Assign [.Name y py] (.ListComp elt [⟨tg, iter, [c], 0⟩] scope pos) spos :: rest) ((ms.bi fun ys => .ok ((ys.filter cb).map g)).bi kk) := fun F ad σ H S hm => bj_lcifO am ok hs hg hc he hr hi hy hyl hsw hf F ad σ H S (by
  rw [show (fun ys => compM ys (fun y => .ok (cb y)) fun y => .ok (g y)) = (fun ys => .ok ((ys.filter cb).map g)) from funext fun ys => compM_ok cb g ys]
  exact hm)
theorem bj_lcifF_p {en : Enc X.K β} {en' : Enc X.K α} {ms : Res (List β)} {is : List Nat} {bd : β → List (Sl X.K) → List (Sl X.K)} {cb : β → Bool} {g : β → α} {kk : List α → Res ρ} {i : Nat} {y : Str} {py spos : Pos} (am : Amb X Z k) (ok : BlkOk X.N X.env.scope scope own) (hs : SJ X Z sp tg iter ms en)
    (hg : ∀ s H C cl fp, GJ (blkX X scope s H C cl fp) tg en is bd) (hc : ∀ y s H C cl fp, TJ (blkX X scope s H C cl fp) Z.mute (blkS sp own bd y) c (.ok (cb y))) (he : ∀ y s H C cl fp, EJ (blkX X scope s H C cl fp) Z.mute (blkS sp own bd y) elt (.ok (g y)) en') (hr : ∀ v, BJ X Z Qr D ⟨sp.sl.set i (.val (eL en') v), sp.ob⟩ rest (kk v)) (hi : ∀ i ∈ is, i ∈ own.map (·.2) := by decide) (hy : X.N[i]? = some y := by rfl) (hyl : X.env.scope.names.lookup y = some .local := by rfl)
    (hsw : swapsWith (.ListComp elt [⟨tg, iter, [c], 0⟩] scope pos) (some (.Name y py)) spos.line X.env = pure true := by exact sw_true rfl rfl rfl (by decide +kernel)) (hf : ∀ x, foldedSetIterable iter X.env x = pure x := by intro _; rfl) :
    BJ X Z Qr D sp (.Assign [.Name y py] (.ListComp elt [⟨tg, iter, [c], 0⟩] scope pos) spos :: rest) ((ms.bi fun ys => .ok ((ys.filter cb).map g)).bi kk) := fun F ad σ H S hm => bj_lcifF am ok hs hg hc he hr hi hy hyl hsw hf F ad σ H S (by
  rw [show (fun ys => compM ys (fun y => .ok (cb y)) fun y => .ok (g y)) = (fun ys => .ok ((ys.filter cb).map g)) from funext fun ys => compM_ok cb g ys]
  exact hm)
end
/-! ### a def -/
section
variable {P : Program} {w : World} {K : Frag} {mg : Str → Option Value} {base : Heap} {γ ρ : Type}
/-- a def's body by its mirror -/
theorem fn_ok {x qual : Str} {params : Arguments} {body : List Stmt} {scope : Scope} {f : Addr} {fd : FuncData} {N ps : List Str} {k : Nat} (F : FunD K x qual params body scope [] [] f fd) (S : FnScope N ps scope) {A : ArE K γ} {mf : γ → Res ρ} {R : RtE ρ} (hlen : ∀ g, (A.sl g).length = ps.length)
    (hb : ∀ (cdv : Value) (Ao : Around) (outer : List Env) (s : Shared) (H : Hp) (E : XK) (Z : Fz) (Qr : ρ → Prop) (D : Ends) (g : γ), Amb (cxOf (L2.CX P w) P w K mg base N qual scope f cdv Ao outer s H E) Z k → RT Z R Qr D.rt → (∀ v H', D.rt v H' → v = .non → ∀ σ, D.nx σ H') →
      BJ (cxOf (L2.CX P w) P w K mg base N qual scope f cdv Ao outer s H E) Z Qr D ⟨A.sl g ++ List.replicate (N.length - ps.length) .any, []⟩ body (mf g)) : FnOk P w K mg base (L2.CX P w) (k + 1) f fd ps (spF mg A mf R) := by
  refine F.ok S (fun vs H Q E h => ?_) fun cdv Ao outer s H vs Q E hr h => ?_
  · obtain ⟨F0, g, _, hA, _⟩ := h
    rw [(A.ok hA).1, hlen]
  · obtain ⟨F0, g, hF, hA, hm⟩ := h
    obtain ⟨hl, hs⟩ := A.ok hA
    refine ⟨_, pb_w, hb cdv Ao outer s H E ⟨F0, H, fun c => ∀ C H', mg c = some (.ref C) → Same H H' → E (.ref C) none H'⟩ (fun r => ∀ F' H' v, Nx F0 H F' H' → R H F' H' v r → Q v H') { nx := fun _ H' => Q .non H', rt := Q } g
      ⟨hr, rfl, S.nd, passes_of rfl, E, takes_of rfl rfl rfl rfl, fun c h C H' hC sm => h C H' hC sm⟩
      (fun r F' H' v f0 fh gh fg hr q => q F' H' v ⟨f0, gh, fh, fg⟩ hr) (fun v H' h e _ => by subst e; exact h) F0 [] _ H ?_ hm⟩
    refine ⟨Same.refl _, hF, Same.refl _, fun a h => .inl h, List.Pairwise.nil, (fun p h => nomatch h), ?_, fun i (s : Sl K) h => ?_, rfl, (fun k o h => by simp at h), Lf.nil fun _ _ _ _ _ h => by simp at h⟩
    · have e1 : (A.sl g ++ (List.replicate (N.length - ps.length) .any : List (Sl K))).length = ps.length + (N.length - ps.length) := by simp [hlen]
      have e2 : (L2.start N vs).length = vs.length + (N.length - vs.length) := by simp [L2.start]
      exact e1.trans (by rw [e2, hl, hlen])
    · have h : (A.sl g ++ (List.replicate (N.length - ps.length) .any : List (Sl K)))[i]? = some s := h
      have hv : vs.length = ps.length := by rw [hl, hlen]
      have e0 : L2.start N vs = vs.map some ++ List.replicate (N.length - vs.length) none := rfl
      by_cases hi : i < (A.sl g).length
      · rw [List.getElem?_append_left hi] at h
        obtain ⟨v, h1, h2⟩ := hs i s h
        refine ⟨some v, ?_, h2⟩
        rw [e0, List.getElem?_append_left (by rw [List.length_map]; omega), List.getElem?_map, h1]
        rfl
      · have hl2 := getElem?_some_of h
        rw [List.length_append, List.length_replicate] at hl2
        rw [List.getElem?_append_right (by omega)] at h
        have e : s = .any := by
          rw [List.getElem?_replicate] at h
          split at h
          · exact (Option.some.inj h).symm
          · cases h
        subst e
        refine ⟨none, ?_, trivial⟩
        rw [e0, List.getElem?_append_right (by rw [List.length_map]; omega), List.getElem?_replicate, if_pos (by rw [List.length_map]; omega)]
theorem cal_mk {x qual : Str} {params : Arguments} {body : List Stmt} {scope : Scope} {f : Addr} {fd : FuncData} {ps : List Str} {k : Nat} {sp : Sp} (F : FunD K x qual params body scope [] [] f fd) (ok : FnOk P w K mg base (L2.CX P w) k f fd ps sp) (hm : mg x = some (.ref f))
    (h : ∀ (kV doc pm : Value) (an : Option Addr) (cdv ct : Value) (us : List Value), us.length = ps.length → bindArgs (PySem.W.fnOf x qual params body scope .none kV doc pm an cdv ct) ⟨us, []⟩ = pure (ps.zip us)) : Cal P w K mg base x k sp :=
  ⟨f, fd, ps, ok, hm, F.kp, F.bindsN h⟩
end
/-- a law: its def by its mirror, and the mirror tells True -/
theorem walk_Z {l : PySem.W.OpenLaw} {n k : Nat} {q : Program} {loose : List Str} {XP : (Str → Option Value) → Heap → Prop} {YP : World → Heap → Prop} {d : DefRec} {x : Str} {m : List Int → Res Bool}
    (hn : l.most = some n) (hn2 : n ≤ sizeLine) (hdf : d.params.defaults = []) (hr : Room k callerA)
    (F : ∀ (w : World) (mg : Str → Option Value) (fa : Addr) (h : Heap), YP w h → h.Ns mainGlobals mg → mg d.name = some (.ref fa) →
      ∃ (K : Frag) (fd : FuncData), K.In h ∧ (∀ (s : Shared) (u : Value), BindsTo s fd ⟨[u], []⟩ [(x, u)]) ∧
        ∀ base : Heap, K.In base → base.Ns mainGlobals mg → FnOk l.prog w K mg base (L2.CX l.prog w) k fa fd [x] (spF mg (arL (eI (K := K)) ar0) (fun g => m g.1) (rtV (eB (K := K)))))
    (hm : ∀ ns : List Int, ns.length ≤ n → (∀ z ∈ ns, Builtin.Int.intBits z ≤ 1048576) → m ns = .ok true) :
    PySem.W.WalkO q loose XP YP l.row.toRowW d [] (fun f vs => PySem.call f vs) := by
  refine Att.attach_callB hn hdf fun w s₀ s₁ mg mb fa o pm cd doc a vs ns G Y ho hd hcd hmg hobj hints hlen hbits hg => ?_
  obtain ⟨K, fd, KX, hb, hF⟩ := F w mg fa _ Y G.T.g hmg
  refine law_call (CX := L2.CX l.prog w) (sp := spF mg (arL (eI (K := K)) ar0) (fun g => m g.1) (rtV (eB (K := K)))) KX G.T.g G.T.b G.T.builtins G.T.nolimit hg hobj hints (Nat.le_trans hlen hn2) hr hF hb (fun H hO hS => ?_) fun H e s' h => ?_
  · refine ⟨fun _ => none, (ns, ()), (fun b o e => nomatch e), ⟨a, ns.map V.int, [], rfl, hS, by rw [List.length_map]; exact Nat.le_trans hlen hn2, Reps.ofInt _, rfl⟩, ?_⟩
    show mwp (m ns) _ _
    rw [hm ns hlen hbits]
    exact fun F' H' v _ r => r
  · obtain ⟨_, _, _, _, _, _, _, _, _, _, _, _, z⟩ := h
    exact z.elim
end Wk

set_option Elab.async false
set_option linter.all false
set_option maxRecDepth 100000
set_option maxHeartbeats 4000000
namespace Wk
open PySem PySem.Spec PyProof.Rows L2
/-! ### equality at any depth -/
structure EqE {K : Frag} {α : Type} [DecidableEq α] (e : Enc K α) where
  dat : α → PyData
  dp : ∀ {F H : Hp} {v : V} {a : α}, Same F H → e.rep F v a → Dp K H v (dat a)
  pl : ∀ a, (dat a).plain = true
  eqv : ∀ a b, PyData.eqv (dat a) (dat b) = decide (a = b)
  dep : Nat
  le : ∀ a, (dat a).depth ≤ dep
structure EqR {K : Frag} {γ : Type} [DecidableEq γ] (r : VsE K γ) where
  dat : γ → List PyData
  dp : ∀ {F H : Hp} {vs : List V} {a : γ}, Same F H → r.rep F vs a → DpAll K H vs (dat a)
  pl : ∀ a, PyData.plainAll (dat a) = true
  eqv : ∀ a b, PyData.eqvAll (dat a) (dat b) = decide (a = b)
  dep : Nat
  le : ∀ a, PyData.depthAll (dat a) ≤ dep
section
variable {K : Frag} {α β γ : Type}
theorem beq_dec {α : Type} [BEq α] [LawfulBEq α] [DecidableEq α] (a b : α) : (a == b) = decide (a = b) := by
  rw [Bool.eq_iff_iff, beq_iff_eq, decide_eq_true_eq]
def eqI : EqE (eI (K := K)) := ⟨.int, fun {F H v a} s h => by
  have e : v = .int a := h
  subst e; exact .int a, fun _ => rfl, fun a b => by simp only [PyData.eqv]; exact beq_dec a b, 0, fun _ => Nat.le_refl _⟩
def eqB : EqE (eB (K := K)) := ⟨.bool, fun {F H v a} s h => by
  have e : v = .bl a := h
  subst e; exact .bl a, fun _ => rfl, fun a b => by simp only [PyData.eqv]; exact beq_dec a b, 0, fun _ => Nat.le_refl _⟩
def eqS : EqE (eS (K := K)) := ⟨.str, fun {F H v a} s h => by
  have e : v = .str a := h
  subst e; exact .str a, fun _ => rfl, fun a b => by
    simp only [PyData.eqv]
    exact beq_dec a b, 0, fun _ => Nat.le_refl _⟩
variable [DecidableEq α] [DecidableEq β] [DecidableEq γ]
theorem dpAll {e : Enc K α} (q : EqE e) {F H : Hp} (s : Same F H) : ∀ {vs : List V} {xs : List α}, Reps e F vs xs → DpAll K H vs (xs.map q.dat)
  | _, _, .nil => .nil
  | _, _, .cons r t => .cons (q.dp s r) (dpAll q s t)
theorem plAll {e : Enc K α} (q : EqE e) : ∀ xs : List α, PyData.plainAll (xs.map q.dat) = true
  | [] => rfl
  | x :: xs => by
    rw [List.map_cons]
    show (PyData.plain _ && PyData.plainAll _) = true
    rw [q.pl, plAll q xs]
    rfl
theorem eqvAll {e : Enc K α} (q : EqE e) : ∀ xs ys : List α, PyData.eqvAll (xs.map q.dat) (ys.map q.dat) = decide (xs = ys)
  | [], [] => by simp [PyData.eqvAll]
  | [], y :: ys => by simp [PyData.eqvAll]
  | x :: xs, [] => by simp [PyData.eqvAll]
  | x :: xs, y :: ys => by
    rw [List.map_cons, List.map_cons, PyData.eqvAll, q.eqv, eqvAll q xs ys]
    by_cases h : x = y
    · by_cases h2 : xs = ys
      · simp [h, h2]
      · simp [h2]
    · simp [h]
theorem depAll {e : Enc K α} (q : EqE e) : ∀ xs : List α, PyData.depthAll (xs.map q.dat) ≤ q.dep
  | [] => by simp [PyData.depthAll]
  | x :: xs => by
    rw [List.map_cons, PyData.depthAll]
    exact Nat.max_le.mpr ⟨q.le x, depAll q xs⟩
def eqL {e : Enc K α} (q : EqE e) : EqE (eL e) := ⟨fun xs => .list (xs.map q.dat), fun {F H v a} s h => by
  obtain ⟨p, vs, rfl, h2, _, h3⟩ := h
  exact .lst (SqL.of (s _ _ h2)) (dpAll q s h3), fun xs => plAll q xs, fun a b => by rw [PyData.eqv]; exact eqvAll q a b, q.dep + 1, fun xs => by
    rw [PyData.depth]
    have := depAll q xs
    omega⟩
def eqTL {e : Enc K α} (q : EqE e) : EqE (eTL e) := ⟨fun xs => .tuple (xs.map q.dat), fun {F H v a} s h => by
  obtain ⟨p, vs, rfl, h2, _, h3⟩ := h
  exact .tup (SqT.of (s _ _ h2)) (dpAll q s h3), fun xs => plAll q xs, fun a b => by rw [PyData.eqv]; exact eqvAll q a b, q.dep + 1, fun xs => by
    rw [PyData.depth]
    have := depAll q xs
    omega⟩
def eqv1 {e : Enc K α} (q : EqE e) : EqR (vs1 e) := ⟨fun a => [q.dat a], fun {F H vs a} s h => by
  obtain ⟨v, rfl, h⟩ := h
  exact .cons (q.dp s h) .nil, fun a => by
    show (PyData.plain _ && PyData.plainAll _) = true
    rw [q.pl]; rfl, fun a b => by
    rw [PyData.eqvAll, PyData.eqvAll, q.eqv, Bool.and_true], q.dep, fun a => by
    rw [PyData.depthAll, PyData.depthAll]
    exact Nat.max_le.mpr ⟨q.le a, Nat.zero_le _⟩⟩
def eqvC {e : Enc K α} {r : VsE K γ} (q : EqE e) (t : EqR r) : EqR (vsC e r) := ⟨fun g => q.dat g.1 :: t.dat g.2, fun {F H vs a} s h => by
  obtain ⟨v, ws, rfl, h1, h2⟩ := h
  exact .cons (q.dp s h1) (t.dp s h2), fun a => by
    show (PyData.plain _ && PyData.plainAll _) = true
    rw [q.pl, t.pl]; rfl, fun a b => by
    rw [PyData.eqvAll, q.eqv, t.eqv]
    obtain ⟨a1, a2⟩ := a
    obtain ⟨b1, b2⟩ := b
    by_cases h : a1 = b1
    · by_cases h2 : a2 = b2
      · simp [h, h2]
      · simp [h2]
    · simp [h], max q.dep t.dep, fun a => by
    rw [PyData.depthAll]
    have h1 := q.le a.1
    have h2 := t.le a.2
    have h3 := Nat.le_max_left q.dep t.dep
    have h4 := Nat.le_max_right q.dep t.dep
    exact Nat.max_le.mpr ⟨by omega, by omega⟩⟩
def eqT {r : VsE K γ} (t : EqR r) : EqE (eT r) := ⟨fun g => .tuple (t.dat g), fun {F H v a} s h => by
  obtain ⟨p, vs, rfl, h1, h2⟩ := h
  exact .tup (SqT.of (s _ _ h1)) (t.dp s h2), fun a => t.pl a, fun a b => by rw [PyData.eqv]; exact t.eqv a b, t.dep + 1, fun a => by
    rw [PyData.depth]
    have := t.le a
    omega⟩
/-- a list of a written row -/
def eH (r : VsE K γ) : Enc K γ := ⟨fun F v g => ∃ p vs, v = .ref p ∧ F p = some (.lst vs) ∧ r.rep F vs g, fun s ⟨p, vs, h1, h2, h3⟩ => ⟨p, vs, h1, s _ _ h2, r.mono s h3⟩⟩
def eqH {r : VsE K γ} (t : EqR r) : EqE (eH r) := ⟨fun g => .list (t.dat g), fun {F H v a} s h => by
  obtain ⟨p, vs, rfl, h1, h2⟩ := h
  exact .lst (SqL.of (s _ _ h1)) (t.dp s h2), fun a => t.pl a, fun a b => by rw [PyData.eqv]; exact t.eqv a b, t.dep + 1, fun a => by
    rw [PyData.depth]
    have := t.le a
    omega⟩
def eqO {e : Enc K α} (q : EqE e) (h1 : ∀ a, PyData.eqv .none (q.dat a) = false := by intro a; rfl) (h2 : ∀ a, PyData.eqv (q.dat a) .none = false := by intro a; rfl) : EqE (eO e) := ⟨fun o => match o with
  | none => .none
  | some a => q.dat a, fun {F H v a} s h => by
    cases a with
    | none =>
      have e : v = .non := h
      subst e; exact .non
    | some a => exact q.dp s h, fun a => by
    cases a with
    | none => rfl
    | some a => exact q.pl a, fun a b => by
    cases a with
    | none => cases b with
      | none => simp [PyData.eqv]
      | some b => simp [h1]
    | some a => cases b with
      | none => simp [h2]
      | some b => simp [q.eqv], q.dep, fun a => by
    cases a with
    | none => simp [PyData.depth]
    | some a => exact q.le a⟩
theorem anyAt {e : Enc K α} (q : EqE e) (x : α) : ∀ xs : List α, ((xs.map q.dat).any fun z => PyData.eqv z (q.dat x)) = decide (x ∈ xs)
  | [] => by simp
  | y :: ys => by
    rw [List.map_cons, List.any_cons, anyAt q x ys, q.eqv]
    by_cases h : y = x
    · simp [h]
    · by_cases h2 : x ∈ ys
      · simp [h2]
      · simp [h, h2]; exact fun z => absurd z.symm h
theorem nonH {r : VsE K γ} : NoN (eH r) := fun F v a h z => by
  obtain ⟨p, vs, e, _⟩ := h
  rw [e] at z; cases z
theorem tyH {r : VsE K γ} : TyE (eH r) "list" := fun F H v a s h => by
  obtain ⟨p, vs, rfl, h1, h2⟩ := h
  exact .base (.lst (s _ _ h1))
theorem tyTL {e : Enc K α} : TyE (eTL e) "tuple" := fun F H v a s h => by
  obtain ⟨p, vs, rfl, h1, hz, h2⟩ := h
  exact .base (.tup (s _ _ h1))
end
section
variable {X : Cx}
def rEqP (K : Frag) (n : Nat) : R2 := fun x y H Q => ∃ d e, Dp K H x d ∧ Dp K H y e ∧ d.plain = true ∧ e.plain = true ∧ d.depth ≤ n ∧ Q (.bl (PyData.eqv d e)) H
def rNeP (K : Frag) (n : Nat) : R2 := fun x y H Q => ∃ d e, Dp K H x d ∧ Dp K H y e ∧ d.plain = true ∧ e.plain = true ∧ d.depth ≤ n ∧ Q (.bl (!PyData.eqv d e)) H
theorem op_eqP {n : Nat} (hu : X.A.units + 64 < cLine) (hn : n ≤ 60) : OpR X (compareOp .Eq) (rEqP X.K n) := by
  intro pins s σ H x y v u Q I rx ry h
  obtain ⟨d, e, hd, he, sd, se, hl, q⟩ := h
  obtain ⟨as, r1⟩ := Dp.reads I d x v hd rx
  obtain ⟨bs, r2⟩ := Dp.reads I e y u he ry
  exact SeqAt.eq_plain r1 r2 sd se (by have := Nat.min_le_left d.depth e.depth; omega) ⟨.bl _, H, I, rfl, q⟩
theorem op_neP {n : Nat} (hu : X.A.units + 64 < cLine) (hn : n ≤ 60) : OpR X (compareOp .NotEq) (rNeP X.K n) := by
  intro pins s σ H x y v u Q I rx ry h
  obtain ⟨d, e, hd, he, sd, se, hl, q⟩ := h
  obtain ⟨as, r1⟩ := Dp.reads I d x v hd rx
  obtain ⟨bs, r2⟩ := Dp.reads I e y u he ry
  exact SeqAt.ne_plain r1 r2 sd se (by have := Nat.min_le_left d.depth e.depth; omega) ⟨.bl _, H, I, rfl, q⟩
def rInP (K : Frag) (n : Nat) : R2 := fun x y H Q => ∃ d ds, Dp K H x d ∧ Dp K H y (.list ds) ∧ d.plain = true ∧ PyData.plainAll ds = true ∧ d.depth ≤ n ∧ Q (.bl (ds.any fun z => PyData.eqv z d)) H
def rNotInP (K : Frag) (n : Nat) : R2 := fun x y H Q => ∃ d ds, Dp K H x d ∧ Dp K H y (.list ds) ∧ d.plain = true ∧ PyData.plainAll ds = true ∧ d.depth ≤ n ∧ Q (.bl (!ds.any fun z => PyData.eqv z d)) H
theorem op_inP {n : Nat} (hu : X.A.units + 64 < cLine) (hn : n ≤ 60) : OpR X (compareOp .In) (rInP X.K n) := by
  intro pins s σ H x y v u Q I rx ry h
  obtain ⟨d, ds, hd, he, sd, se, hl, q⟩ := h
  obtain ⟨as, r1⟩ := Dp.reads I d x v hd rx
  obtain ⟨bs, r2⟩ := Dp.reads I (.list ds) y u he ry
  exact SeqAt.in_list_data r2 r1 se sd (by have := Nat.min_le_right (PyData.depthAll ds) d.depth; omega) ⟨.bl _, H, I, rfl, q⟩
theorem op_notInP {n : Nat} (hu : X.A.units + 64 < cLine) (hn : n ≤ 60) : OpR X (compareOp .NotIn) (rNotInP X.K n) := by
  intro pins s σ H x y v u Q I rx ry h
  obtain ⟨d, ds, hd, he, sd, se, hl, q⟩ := h
  obtain ⟨as, r1⟩ := Dp.reads I d x v hd rx
  obtain ⟨bs, r2⟩ := Dp.reads I (.list ds) y u he ry
  exact SeqAt.notIn_list_data r2 r1 se sd (by have := Nat.min_le_right (PyData.depthAll ds) d.depth; omega) ⟨.bl _, H, I, rfl, q⟩
end
section
variable {X : Cx} {Z : Fz} {sp : Spec X.K} {a b c e : Expr} {es : List Expr} {pos p p2 fp : Pos} {α β γ ρ : Type} {op : CmpOp}
/-- a value that reads as data -/
def DJ (X : Cx) (Z : Fz) (sp : Spec X.K) (e : Expr) {α : Type} [DecidableEq α] (m : Res α) {en : Enc X.K α} (q : EqE en) : Prop :=
  ∀ (F : Hp) (ad : List Addr) (σ : Sg) (H : Hp) (Q : VK), SOk Z F ad sp σ H → mwp m (fun x => ∀ F' H' v, Nx F H F' H' → (∀ H'', Same H' H'' → Dp X.K H'' v (q.dat x)) → Q v H') Z.Er → wE X e σ H Q
theorem dj_ej [DecidableEq α] {en : Enc X.K α} {q : EqE en} {m : Res α} (h : EJ X Z sp e m en) : DJ X Z sp e m q := fun F ad σ H Q S hm =>
  h F ad σ H Q S (hm.imp fun x k F' H' v n r => k F' H' v n fun H'' s => q.dp (n.fh.trans s) r)
theorem dj_lj [DecidableEq α] {en : Enc X.K α} {q : EqE en} {m : Res (List α)} (h : LJ X Z sp e m en) : DJ X Z sp e m (eqL q) := fun F ad σ H Q S hm =>
  h F ad σ H Q S (hm.imp fun x k F' H' p vs n h1 hz r => k F' H' (.ref p) n fun H'' s => .lst (sqL_mono s h1) (dpAll q (n.fh.trans s) r))
theorem cj_eqD [DecidableEq α] {en : Enc X.K α} (hu : X.A.units + 64 < cLine) (q : EqE en) {ma mb : Res α} (ha : DJ X Z sp a ma q) (hb : DJ X Z sp b mb q) (hd : Nat.ble q.dep 60 = true := by rfl) : CJ X Z sp .Eq a b (ma.bi fun x => mb.bi fun y => .ok (decide (x = y))) := ⟨_, op_eqP hu (Nat.le_of_ble_eq_true hd), fun F ad σ H Q S hm => by
  refine ha F ad σ H _ S (hm.bi.imp fun x k F1 H1 v n1 r1 => ?_)
  refine hb F1 ad σ H1 _ (S.nx n1) (k.bi.imp fun y k F2 H2 u n2 r2 => ?_)
  refine ⟨_, _, r1 _ n2.hh, r2 _ (Same.refl _), q.pl _, q.pl _, q.le _, ?_⟩
  rw [q.eqv]
  exact k F2 H2 (n1.trans n2)⟩
theorem cj_neD [DecidableEq α] {en : Enc X.K α} (hu : X.A.units + 64 < cLine) (q : EqE en) {ma mb : Res α} (ha : DJ X Z sp a ma q) (hb : DJ X Z sp b mb q) (hd : Nat.ble q.dep 60 = true := by rfl) : CJ X Z sp .NotEq a b (ma.bi fun x => mb.bi fun y => .ok (!decide (x = y))) := ⟨_, op_neP hu (Nat.le_of_ble_eq_true hd), fun F ad σ H Q S hm => by
  refine ha F ad σ H _ S (hm.bi.imp fun x k F1 H1 v n1 r1 => ?_)
  refine hb F1 ad σ H1 _ (S.nx n1) (k.bi.imp fun y k F2 H2 u n2 r2 => ?_)
  refine ⟨_, _, r1 _ n2.hh, r2 _ (Same.refl _), q.pl _, q.pl _, q.le _, ?_⟩
  rw [q.eqv]
  exact k F2 H2 (n1.trans n2)⟩
theorem cj_eqD_p [DecidableEq α] {en : Enc X.K α} (hu : X.A.units + 64 < cLine) (q : EqE en) {x y : α} (ha : DJ X Z sp a (.ok x) q) (hb : DJ X Z sp b (.ok y) q) (hd : Nat.ble q.dep 60 = true := by rfl) : CJ X Z sp .Eq a b (.ok (decide (x = y))) := cj_eqD hu q ha hb hd
theorem cj_neD_p [DecidableEq α] {en : Enc X.K α} (hu : X.A.units + 64 < cLine) (q : EqE en) {x y : α} (ha : DJ X Z sp a (.ok x) q) (hb : DJ X Z sp b (.ok y) q) (hd : Nat.ble q.dep 60 = true := by rfl) : CJ X Z sp .NotEq a b (.ok (!decide (x = y))) := cj_neD hu q ha hb hd
theorem cj_inD [DecidableEq α] {en : Enc X.K α} (hu : X.A.units + 64 < cLine) (q : EqE en) {ma : Res α} {mb : Res (List α)} (ha : DJ X Z sp a ma q) (hb : LJ X Z sp b mb en) (hd : Nat.ble q.dep 60 = true := by rfl) : CJ X Z sp .In a b (ma.bi fun x => mb.bi fun xs => .ok (decide (x ∈ xs))) := ⟨_, op_inP hu (Nat.le_of_ble_eq_true hd), fun F ad σ H Q S hm => by
  refine ha F ad σ H _ S (hm.bi.imp fun x k F1 H1 v n1 r1 => ?_)
  refine hb F1 ad σ H1 _ (S.nx n1) (k.bi.imp fun y k F2 H2 p vs n2 h2 hz r2 => ?_)
  refine ⟨_, _, r1 _ n2.hh, .lst h2 (dpAll q n2.fh r2), q.pl _, plAll q _, q.le _, ?_⟩
  rw [anyAt]
  exact k F2 H2 (n1.trans n2)⟩
theorem cj_notInD [DecidableEq α] {en : Enc X.K α} (hu : X.A.units + 64 < cLine) (q : EqE en) {ma : Res α} {mb : Res (List α)} (ha : DJ X Z sp a ma q) (hb : LJ X Z sp b mb en) (hd : Nat.ble q.dep 60 = true := by rfl) : CJ X Z sp .NotIn a b (ma.bi fun x => mb.bi fun xs => .ok (!decide (x ∈ xs))) := ⟨_, op_notInP hu (Nat.le_of_ble_eq_true hd), fun F ad σ H Q S hm => by
  refine ha F ad σ H _ S (hm.bi.imp fun x k F1 H1 v n1 r1 => ?_)
  refine hb F1 ad σ H1 _ (S.nx n1) (k.bi.imp fun y k F2 H2 p vs n2 h2 hz r2 => ?_)
  refine ⟨_, _, r1 _ n2.hh, .lst h2 (dpAll q n2.fh r2), q.pl _, plAll q _, q.le _, ?_⟩
  rw [anyAt]
  exact k F2 H2 (n1.trans n2)⟩
theorem cj_inD_p [DecidableEq α] {en : Enc X.K α} (hu : X.A.units + 64 < cLine) (q : EqE en) {x : α} {xs : List α} (ha : DJ X Z sp a (.ok x) q) (hb : LJ X Z sp b (.ok xs) en) (hd : Nat.ble q.dep 60 = true := by rfl) : CJ X Z sp .In a b (.ok (decide (x ∈ xs))) := cj_inD hu q ha hb hd
theorem cj_notInD_p [DecidableEq α] {en : Enc X.K α} (hu : X.A.units + 64 < cLine) (q : EqE en) {x : α} {xs : List α} (ha : DJ X Z sp a (.ok x) q) (hb : LJ X Z sp b (.ok xs) en) (hd : Nat.ble q.dep 60 = true := by rfl) : CJ X Z sp .NotIn a b (.ok (!decide (x ∈ xs))) := cj_notInD hu q ha hb hd
/-! ### more -/
theorem ej_pow_p {x : Int} (n : Nat) {j : Nat} (ha : EJ X Z sp a (.ok x) eI) (hn : n ≤ 1000000 := by decide) : EJ X Z sp (.BinOp a .Pow (.Constant (.int (n : Int)) j p) pos) (powM x n) eI := ej_pow n ha hn
theorem ej_div_p {x y : Int} (ha : EJ X Z sp a (.ok x) eI) (hb : EJ X Z sp b (.ok y) eI) : EJ X Z sp (.BinOp a .FloorDiv b pos) (divM x y) eI := ej_div ha hb
theorem ej_mod_p {x y : Int} (ha : EJ X Z sp a (.ok x) eI) (hb : EJ X Z sp b (.ok y) eI) : EJ X Z sp (.BinOp a .Mod b pos) (modM x y) eI := ej_mod ha hb
theorem ej_lens_p {x : Str} (hm : X.mg "len" = none) (h : EJ X Z sp a (.ok x) eS) (hg : Gl X "len" := by rfl) (hn : nst a = true := by rfl) : EJ X Z sp (.Call (.Name "len" fp) [a] [] pos) (lenS x) eI := ej_lens hm h hg hn
theorem fj_listR {m : Res Int} (hm : X.mg "list" = none) (hm2 : X.mg "range" = none) (ha : EJ X Z sp a m eI) (hc : X.calm = true := by rfl) (hg : Gl X "list" := by rfl) (hg2 : Gl X "range" := by rfl) (hn : nst a = true := by rfl) : FJ X Z sp (.Call (.Name "list" fp) [.Call (.Name "range" p2) [a] [] p] [] pos) (m.bi rng1) eI := fun F ad σ H Q S hq => by
  refine ofE (pe_listRg hc hg hm (prg_1 hg2 hm2 pe_w (star_cons hn)) rfl) ?_
  refine ha F ad σ H _ S (hq.bi.imp fun i q F1 H1 v n1 r1 => ?_)
  obtain ⟨⟨c1, c2⟩, q⟩ := q.gd
  refine ⟨i, r1, ⟨by omega, by omega, c1, by omega, by omega⟩, fun l hl => ?_⟩
  obtain ⟨g1, g2⟩ := n1.free hl
  have e : rgV 0 i = (rangeL 0 i).map V.int := by
    unfold rgV rangeL
    rw [List.map_map]
    rfl
  rw [e]
  exact q F1 _ l _ (n1.new hl) g1 g2 upd_same (by rw [List.length_map, rangeL_length, sizeLine_eq]; omega) (Reps.ofInt _)
theorem fj_listR_p {n : Int} (hm : X.mg "list" = none) (hm2 : X.mg "range" = none) (ha : EJ X Z sp a (.ok n) eI) (hc : X.calm = true := by rfl) (hg : Gl X "list" := by rfl) (hg2 : Gl X "range" := by rfl) (hn : nst a = true := by rfl) : FJ X Z sp (.Call (.Name "list" fp) [.Call (.Name "range" p2) [a] [] p] [] pos) (rng1 n) eI := fj_listR hm hm2 ha hc hg hg2 hn
/-! ### lists of written rows -/
theorem ej_hl {r : VsE X.K γ} {m : Res γ} (h : VJ X Z sp es m r) (hl : es.length ≤ 1000 := by decide) : EJ X Z sp (.List es pos) m (eH r) := fun F ad σ H Q S hq => by
  refine ofE (pe_lst pa_w) ?_
  refine h F ad σ H _ S (hq.imp fun g q F1 H1 vs n1 r1 e => ?_)
  refine ⟨Nat.le_of_lt (small1000 (by omega)), fun l hl => ?_⟩
  obtain ⟨g1, g2⟩ := n1.free hl
  exact q (L2.upd F1 l (.lst vs)) _ (.ref l) ((n1.new hl).fix g1 g2 upd_same) ⟨l, vs, rfl, upd_same, r.mono (same_upd g2) r1⟩
theorem ej_hix {r : VsE X.K γ} {en : Enc X.K α} {f : γ → α} {ma : Res γ} (n : Nat) {j : Nat} (ha : EJ X Z sp a ma (eH r)) (hat : VAt r n en f) : EJ X Z sp (.Subscript a (.Constant (.int (n : Int)) j p) pos) (ma.bi fun g => .ok (f g)) en := fun F ad σ H Q S hm => by
  refine ofE (pe_ix ix_list pe_w pe_int fun _ _ => rfl) ?_
  refine ha F ad σ H _ S (hm.bi.imp fun g q F1 H1 v n1 r1 => ?_)
  obtain ⟨p, vs, rfl, h1, h2⟩ := r1
  obtain ⟨v, hv, rv⟩ := hat F1 vs g h2
  exact ⟨p, vs, n, v, rfl, rfl, SqL.of (n1.fh _ _ h1), atI_nat hv, q F1 H1 v n1 rv⟩
theorem ej_hix_p {r : VsE X.K γ} {en : Enc X.K α} {f : γ → α} {g : γ} (n : Nat) {j : Nat} (ha : EJ X Z sp a (.ok g) (eH r)) (hat : VAt r n en f) : EJ X Z sp (.Subscript a (.Constant (.int (n : Int)) j p) pos) (.ok (f g)) en := ej_hix n ha hat
end
section
variable {X : Cx} {Z : Fz} {sp : Spec X.K} {a b c e : Expr} {es : List Expr} {pos p p2 fp : Pos} {α β γ ρ : Type} {k j : Nat} {x : Str} {F F' H H' : Hp} {ad : List Addr} {σ : Sg} {Qr : ρ → Prop} {D : Ends} {st : Stmt} {st' rest body : List Stmt} {m : Res ρ}
/-- calls, the arguments as they are -/
theorem ej_call_p {A : ArE X.K γ} {mf : γ → Res ρ} {en : Enc X.K ρ} {g : γ} (am : Amb X Z k) (C : Cal X.prog X.w X.K X.mg X.base x j (spF X.mg A mf (rtV en))) (hj : j ≤ k) (ha : AJ X Z sp (e :: es) (.ok g) A) (hn : nst e = true := by rfl) (hg : Gl X x := by rfl)
    (hpl : (backTo pos (starEach es X.env)).any (·.1) = false := by rfl) (hdb : (x == ("__debug__" : Str)) = false := by decide) : EJ X Z sp (.Call (.Name x fp) (e :: es) [] pos) (mf g) en := ej_call am C hj ha hn hg hpl hdb
theorem fj_call_p {A : ArE X.K γ} {mf : γ → Res (List ρ)} {en : Enc X.K ρ} {g : γ} (am : Amb X Z k) (C : Cal X.prog X.w X.K X.mg X.base x j (spF X.mg A mf (rtN en))) (hj : j ≤ k) (ha : AJ X Z sp (e :: es) (.ok g) A) (hn : nst e = true := by rfl) (hg : Gl X x := by rfl)
    (hpl : (backTo pos (starEach es X.env)).any (·.1) = false := by rfl) (hdb : (x == ("__debug__" : Str)) = false := by decide) : FJ X Z sp (.Call (.Name x fp) (e :: es) [] pos) (mf g) en := fj_call am C hj ha hn hg hpl hdb
/-- a list of ours that stays from here on -/
def thaw {K : Frag} {α : Type} (k : Nat) (en : Enc K α) (xs : List α) : Sl K → Sl K
  | .own j => match Nat.beq j k with
    | true => .val (eL en) xs
    | false => .own j
  | s => s
theorem thaw_ok {K : Frag} {G : Hp} {p : Addr} {vs : List V} {en : Enc K α} {xs : List α} (hp : ad[k]? = some p) (hF : F p = none) (hz : vs.length ≤ sizeLine) (r : Reps en F vs xs) {s : Sl K} {o : Option V} (h : slOk G F ad s o) : slOk G (L2.upd F p (.lst vs)) ad (thaw k en xs s) o := by
  cases s with
  | any => trivial
  | val e a => exact slOk.mono (s := .val e a) (same_upd hF) h
  | bor e a => exact slOk.mono (s := .bor e a) (same_upd hF) h
  | own j =>
    show slOk G (L2.upd F p (.lst vs)) ad (match Nat.beq j k with
      | true => .val (eL en) xs
      | false => .own j) o
    cases q : Nat.beq j k with
    | false => exact h
    | true =>
      have e : j = k := Nat.eq_of_beq_eq_true q
      subst e
      obtain ⟨p', h1, h2⟩ := h
      rw [hp] at h1
      have e : p = p' := Option.some.inj h1
      subst e
      exact ⟨.ref p, h2, p, vs, rfl, upd_same, hz, r.mono (same_upd hF)⟩
theorem SOk.frz {t : Option Addr} {K : Frag} {sp : Spec K} {en : Enc K α} {xs : List α} (S : SOk Z F ad sp σ H) (ho : sp.ob[k]? = some (.lst t en xs)) : ∃ F', SOk Z F' ad ⟨sp.sl.map (thaw k en xs), sp.ob.set k .dead⟩ σ H := by
  obtain ⟨p, hp, vs, h1, hz, h2, h3, h4⟩ := S.ob k _ ho
  refine ⟨L2.upd F p (.lst vs), S.f0.trans (same_upd h3), fun b o h => ?_, S.gh, fun b h => ?_, S.nd, S.st, by simp [S.len], fun i s h => ?_, by simp [S.olen], fun i o h => ?_, S.lf.set hp S.nd (same_upd h3) (fun a ha z => by rw [upd_ne ha]; exact z) (fun _ _ => rfl) fun _ _ _ _ z => nomatch z⟩
  · by_cases e : b = p
    · subst e
      rw [upd_same] at h
      rw [h1]; exact h
    · rw [upd_ne e] at h
      exact S.fh b o h
  · by_cases e : b = p
    · subst e
      exact .inr h4.1
    · rw [upd_ne e] at h
      exact S.fg b h
  · have h : (sp.sl.map (thaw k en xs))[i]? = some s := h
    rw [List.getElem?_map] at h
    cases q : sp.sl[i]? with
    | none => rw [q] at h; cases h
    | some s0 =>
      rw [q] at h
      have e : thaw k en xs s0 = s := Option.some.inj h
      subst e
      obtain ⟨o, g1, g2⟩ := S.sl i s0 q
      exact ⟨o, g1, thaw_ok hp h3 hz h2 g2⟩
  · have h : (sp.ob.set k .dead)[i]? = some o := h
    by_cases e : i = k
    · subst e
      rw [List.getElem?_set_self (getElem?_some_of ho)] at h
      cases h
      exact ⟨p, hp, trivial⟩
    · rw [List.getElem?_set_ne (Ne.symm e)] at h
      obtain ⟨p', g1, g2⟩ := S.ob i o h
      refine ⟨p', g1, ?_⟩
      cases o with
      | dead => trivial
      | pk t' e' ys => trivial
      | gen t' e' ys =>
        obtain ⟨us, k1, k2, k3, k4⟩ := g2
        refine ⟨us, k1, e'.mono (same_upd h3) k2, ?_, k4⟩
        have ne : p' ≠ p := fun z => by
          subst z
          have hi := getElem?_some_of g1
          have hk := getElem?_some_of hp
          have e1 : ad[i] = p' := Option.some.inj ((List.getElem?_eq_getElem hi).symm.trans g1)
          have e2 : ad[k] = p' := Option.some.inj ((List.getElem?_eq_getElem hk).symm.trans hp)
          exact e ((List.getElem_inj S.nd).mp (e1.trans e2.symm))
        rw [upd_ne ne]
        exact k3
      | lst t' e' ys =>
        obtain ⟨us, k1, kz, k2, k3, k4⟩ := g2
        refine ⟨us, k1, kz, k2.mono (same_upd h3), ?_, k4⟩
        have ne : p' ≠ p := fun z => by
          subst z
          have hi := getElem?_some_of g1
          have hk := getElem?_some_of hp
          have e1 : ad[i] = p' := Option.some.inj ((List.getElem?_eq_getElem hi).symm.trans g1)
          have e2 : ad[k] = p' := Option.some.inj ((List.getElem?_eq_getElem hk).symm.trans hp)
          exact e ((List.getElem_inj S.nd).mp (e1.trans e2.symm))
        rw [upd_ne ne]
        exact k3
theorem bj_frz {t : Option Addr} {en : Enc X.K α} {xs : List α} (ho : sp.ob[k]? = some (.lst t en xs)) (hr : BJ X Z Qr D ⟨sp.sl.map (thaw k en xs), sp.ob.set k .dead⟩ st' m) : BJ X Z Qr D sp st' m := fun F ad σ H S hm =>
  let ⟨F', S'⟩ := S.frz ho
  hr F' ad σ H S' hm
theorem bj_augk {op : Operator} {f : Int → Int → Int} {me : Res Int} {kk : Int → Res ρ} {i : Nat} {u : Int} {pos' : Pos} (am : Amb X Z k) (ho : PIp X op (ipI f)) (hs : sp.sl[i]? = some (.val eI u)) (h : EJ X Z sp e me eI) (hr : ∀ v, BJ X Z Qr D ⟨sp.sl.set i (.val eI (f u v)), sp.ob⟩ rest (kk v))
    (hi : X.N[i]? = some x := by rfl) (hx : Loc X.env.scope x := by first | exact Or.inl rfl | exact Or.inr rfl) (hf : X.fn x = true ∨ X.env.scope.names.lookup x = some .local := by first | exact .inl rfl | exact .inr rfl) :
    BJ X Z Qr D sp (.AugAssign (.Name x pos') op e pos :: rest) (me.bi kk) := fun F ad σ H S hm => by
  refine seq (ofS (ps_aug am.nd hi hx pe_w ho hf) ?_)
  obtain ⟨o, h1, w, h2, h3⟩ := S.sl i _ hs
  refine ⟨w, by rw [h1, h2], ?_⟩
  refine h F ad σ H _ S (hm.bi.imp fun v q F' H' y n r => ?_)
  exact ⟨u, v, h3, r, hr v F' ad _ H' ((S.nx n).set ⟨_, rfl, rfl⟩) q⟩
/-- the end of a def that hands nothing back -/
theorem bj_end {Qr : Unit → Prop} (hR : RT Z (rtV (eU : Enc X.K Unit)) Qr D.rt) (hN : ∀ v H', D.rt v H' → v = .non → ∀ σ, D.nx σ H') : BJ X Z Qr D sp [] (.ok ()) := fun F ad σ H S hm =>
  ofB pss_nil (hN _ _ (hR () F H .non S.f0 S.fh S.gh S.fg rfl hm) rfl σ)
variable {elt tg iter : Expr} {scope : Scope} {own : List (Str × Nat)}
theorem fj_lc_pp {en : Enc X.K β} {en' : Enc X.K α} {ys0 : List β} {is : List Nat} {bd : β → List (Sl X.K) → List (Sl X.K)} {g : β → α} (am : Amb X Z k) (ok : BlkOk X.N X.env.scope scope own) (hs : SJ X Z sp tg iter (.ok ys0) en)
    (hg : ∀ s H C cl fp, GJ (blkX X scope s H C cl fp) tg en is bd) (he : ∀ y s H C cl fp, EJ (blkX X scope s H C cl fp) Z.mute (blkS sp own bd y) elt (.ok (g y)) en') (hi : ∀ i ∈ is, i ∈ own.map (·.2) := by decide)
    (hf : ∀ x, foldedSetIterable iter X.env x = pure x := by intro _; rfl) : FJ X Z sp (.ListComp elt [⟨tg, iter, [], 0⟩] scope pos) (Res.ok (ys0.map g)) en' := fj_lc_p am ok hs hg he hi hf
theorem fj_lc_sp {en : Enc X.K β} {en' : Enc X.K α} {ys0 : List β} {is : List Nat} {bd : β → List (Sl X.K) → List (Sl X.K)} {me : β → Res α} (am : Amb X Z k) (ok : BlkOk X.N X.env.scope scope own) (hs : SJ X Z sp tg iter (.ok ys0) en)
    (hg : ∀ s H C cl fp, GJ (blkX X scope s H C cl fp) tg en is bd) (he : ∀ y s H C cl fp, EJ (blkX X scope s H C cl fp) Z.mute (blkS sp own bd y) elt (me y) en') (hi : ∀ i ∈ is, i ∈ own.map (·.2) := by decide)
    (hf : ∀ x, foldedSetIterable iter X.env x = pure x := by intro _; rfl) : FJ X Z sp (.ListComp elt [⟨tg, iter, [], 0⟩] scope pos) (mapMx ys0 me) en' := fj_lc am ok hs hg he hi hf
theorem fj_lcif_pp {en : Enc X.K β} {en' : Enc X.K α} {ys0 : List β} {is : List Nat} {bd : β → List (Sl X.K) → List (Sl X.K)} {cb : β → Bool} {g : β → α} (am : Amb X Z k) (ok : BlkOk X.N X.env.scope scope own) (hs : SJ X Z sp tg iter (.ok ys0) en)
    (hg : ∀ s H C cl fp, GJ (blkX X scope s H C cl fp) tg en is bd) (hc : ∀ y s H C cl fp, TJ (blkX X scope s H C cl fp) Z.mute (blkS sp own bd y) c (.ok (cb y))) (he : ∀ y s H C cl fp, EJ (blkX X scope s H C cl fp) Z.mute (blkS sp own bd y) elt (.ok (g y)) en') (hi : ∀ i ∈ is, i ∈ own.map (·.2) := by decide)
    (hf : ∀ x, foldedSetIterable iter X.env x = pure x := by intro _; rfl) : FJ X Z sp (.ListComp elt [⟨tg, iter, [c], 0⟩] scope pos) (Res.ok ((ys0.filter cb).map g)) en' := fj_lcif_p am ok hs hg hc he hi hf
theorem fj_lcif_sp {en : Enc X.K β} {en' : Enc X.K α} {ys0 : List β} {is : List Nat} {bd : β → List (Sl X.K) → List (Sl X.K)} {cm : β → Res Bool} {me : β → Res α} (am : Amb X Z k) (ok : BlkOk X.N X.env.scope scope own) (hs : SJ X Z sp tg iter (.ok ys0) en)
    (hg : ∀ s H C cl fp, GJ (blkX X scope s H C cl fp) tg en is bd) (hc : ∀ y s H C cl fp, TJ (blkX X scope s H C cl fp) Z.mute (blkS sp own bd y) c (cm y)) (he : ∀ y s H C cl fp, EJ (blkX X scope s H C cl fp) Z.mute (blkS sp own bd y) elt (me y) en') (hi : ∀ i ∈ is, i ∈ own.map (·.2) := by decide)
    (hf : ∀ x, foldedSetIterable iter X.env x = pure x := by intro _; rfl) : FJ X Z sp (.ListComp elt [⟨tg, iter, [c], 0⟩] scope pos) (compM ys0 cm me) en' := fj_lcif am ok hs hg hc he hi hf
theorem bj_lcO_pp {en : Enc X.K β} {en' : Enc X.K α} {ys0 : List β} {is : List Nat} {bd : β → List (Sl X.K) → List (Sl X.K)} {g : β → α} {kk : List α → Res ρ} {i : Nat} {y : Str} {py spos : Pos} (am : Amb X Z k) (ok : BlkOk X.N X.env.scope scope own) (hs : SJ X Z sp tg iter (.ok ys0) en)
    (hg : ∀ s H C cl fp, GJ (blkX X scope s H C cl fp) tg en is bd) (he : ∀ y s H C cl fp, EJ (blkX X scope s H C cl fp) Z.mute (blkS sp own bd y) elt (.ok (g y)) en') (hr : ∀ v, BJ X Z Qr D ⟨sp.sl.set i (.own sp.ob.length), sp.ob ++ [.lst none en' v]⟩ rest (kk v)) (hi : ∀ i ∈ is, i ∈ own.map (·.2) := by decide) (hy : X.N[i]? = some y := by rfl) (hyl : X.env.scope.names.lookup y = some .local := by rfl)
    (hsw : swapsWith (.ListComp elt [⟨tg, iter, [], 0⟩] scope pos) (some (.Name y py)) spos.line X.env = pure true := by exact sw_true rfl rfl rfl (by decide +kernel)) (hf : ∀ x, foldedSetIterable iter X.env x = pure x := by intro _; rfl) :
    BJ X Z Qr D sp (.Assign [.Name y py] (.ListComp elt [⟨tg, iter, [], 0⟩] scope pos) spos :: rest) ((Res.ok (ys0.map g)).bi kk) := bj_lcO_p am ok hs hg he hr hi hy hyl hsw hf
theorem bj_lcO_sp {en : Enc X.K β} {en' : Enc X.K α} {ys0 : List β} {is : List Nat} {bd : β → List (Sl X.K) → List (Sl X.K)} {me : β → Res α} {kk : List α → Res ρ} {i : Nat} {y : Str} {py spos : Pos} (am : Amb X Z k) (ok : BlkOk X.N X.env.scope scope own) (hs : SJ X Z sp tg iter (.ok ys0) en)
    (hg : ∀ s H C cl fp, GJ (blkX X scope s H C cl fp) tg en is bd) (he : ∀ y s H C cl fp, EJ (blkX X scope s H C cl fp) Z.mute (blkS sp own bd y) elt (me y) en') (hr : ∀ v, BJ X Z Qr D ⟨sp.sl.set i (.own sp.ob.length), sp.ob ++ [.lst none en' v]⟩ rest (kk v)) (hi : ∀ i ∈ is, i ∈ own.map (·.2) := by decide) (hy : X.N[i]? = some y := by rfl) (hyl : X.env.scope.names.lookup y = some .local := by rfl)
    (hsw : swapsWith (.ListComp elt [⟨tg, iter, [], 0⟩] scope pos) (some (.Name y py)) spos.line X.env = pure true := by exact sw_true rfl rfl rfl (by decide +kernel)) (hf : ∀ x, foldedSetIterable iter X.env x = pure x := by intro _; rfl) :
    BJ X Z Qr D sp (.Assign [.Name y py] (.ListComp elt [⟨tg, iter, [], 0⟩] scope pos) spos :: rest) ((mapMx ys0 me).bi kk) := bj_lcO am ok hs hg he hr hi hy hyl hsw hf
theorem bj_lcF_pp {en : Enc X.K β} {en' : Enc X.K α} {ys0 : List β} {is : List Nat} {bd : β → List (Sl X.K) → List (Sl X.K)} {g : β → α} {kk : List α → Res ρ} {i : Nat} {y : Str} {py spos : Pos} (am : Amb X Z k) (ok : BlkOk X.N X.env.scope scope own) (hs : SJ X Z sp tg iter (.ok ys0) en)
    (hg : ∀ s H C cl fp, GJ (blkX X scope s H C cl fp) tg en is bd) (he : ∀ y s H C cl fp, EJ (blkX X scope s H C cl fp) Z.mute (blkS sp own bd y) elt (.ok (g y)) en') (hr : ∀ v, BJ X Z Qr D ⟨sp.sl.set i (.val (eL en') v), sp.ob⟩ rest (kk v)) (hi : ∀ i ∈ is, i ∈ own.map (·.2) := by decide) (hy : X.N[i]? = some y := by rfl) (hyl : X.env.scope.names.lookup y = some .local := by rfl)
    (hsw : swapsWith (.ListComp elt [⟨tg, iter, [], 0⟩] scope pos) (some (.Name y py)) spos.line X.env = pure true := by exact sw_true rfl rfl rfl (by decide +kernel)) (hf : ∀ x, foldedSetIterable iter X.env x = pure x := by intro _; rfl) :
    BJ X Z Qr D sp (.Assign [.Name y py] (.ListComp elt [⟨tg, iter, [], 0⟩] scope pos) spos :: rest) ((Res.ok (ys0.map g)).bi kk) := bj_lcF_p am ok hs hg he hr hi hy hyl hsw hf
theorem bj_lcF_sp {en : Enc X.K β} {en' : Enc X.K α} {ys0 : List β} {is : List Nat} {bd : β → List (Sl X.K) → List (Sl X.K)} {me : β → Res α} {kk : List α → Res ρ} {i : Nat} {y : Str} {py spos : Pos} (am : Amb X Z k) (ok : BlkOk X.N X.env.scope scope own) (hs : SJ X Z sp tg iter (.ok ys0) en)
    (hg : ∀ s H C cl fp, GJ (blkX X scope s H C cl fp) tg en is bd) (he : ∀ y s H C cl fp, EJ (blkX X scope s H C cl fp) Z.mute (blkS sp own bd y) elt (me y) en') (hr : ∀ v, BJ X Z Qr D ⟨sp.sl.set i (.val (eL en') v), sp.ob⟩ rest (kk v)) (hi : ∀ i ∈ is, i ∈ own.map (·.2) := by decide) (hy : X.N[i]? = some y := by rfl) (hyl : X.env.scope.names.lookup y = some .local := by rfl)
    (hsw : swapsWith (.ListComp elt [⟨tg, iter, [], 0⟩] scope pos) (some (.Name y py)) spos.line X.env = pure true := by exact sw_true rfl rfl rfl (by decide +kernel)) (hf : ∀ x, foldedSetIterable iter X.env x = pure x := by intro _; rfl) :
    BJ X Z Qr D sp (.Assign [.Name y py] (.ListComp elt [⟨tg, iter, [], 0⟩] scope pos) spos :: rest) ((mapMx ys0 me).bi kk) := bj_lcF am ok hs hg he hr hi hy hyl hsw hf
theorem bj_lcifO_pp {en : Enc X.K β} {en' : Enc X.K α} {ys0 : List β} {is : List Nat} {bd : β → List (Sl X.K) → List (Sl X.K)} {cb : β → Bool} {g : β → α} {kk : List α → Res ρ} {i : Nat} {y : Str} {py spos : Pos} (am : Amb X Z k) (ok : BlkOk X.N X.env.scope scope own) (hs : SJ X Z sp tg iter (.ok ys0) en)
    (hg : ∀ s H C cl fp, GJ (blkX X scope s H C cl fp) tg en is bd) (hc : ∀ y s H C cl fp, TJ (blkX X scope s H C cl fp) Z.mute (blkS sp own bd y) c (.ok (cb y))) (he : ∀ y s H C cl fp, EJ (blkX X scope s H C cl fp) Z.mute (blkS sp own bd y) elt (.ok (g y)) en') (hr : ∀ v, BJ X Z Qr D ⟨sp.sl.set i (.own sp.ob.length), sp.ob ++ [.lst none en' v]⟩ rest (kk v)) (hi : ∀ i ∈ is, i ∈ own.map (·.2) := by decide) (hy : X.N[i]? = some y := by rfl) (hyl : X.env.scope.names.lookup y = some .local := by rfl)
    (hsw : swapsWith (.ListComp elt [⟨tg, iter, [c], 0⟩] scope pos) (some (.Name y py)) spos.line X.env = pure true := by exact sw_true rfl rfl rfl (by decide +kernel)) (hf : ∀ x, foldedSetIterable iter X.env x = pure x := by intro _; rfl) :
    BJ X Z Qr D sp (.Assign [.Name y py] (.ListComp elt [⟨tg, iter, [c], 0⟩] scope pos) spos :: rest) ((Res.ok ((ys0.filter cb).map g)).bi kk) := bj_lcifO_p am ok hs hg hc he hr hi hy hyl hsw hf
theorem bj_lcifO_sp {en : Enc X.K β} {en' : Enc X.K α} {ys0 : List β} {is : List Nat} {bd : β → List (Sl X.K) → List (Sl X.K)} {cm : β → Res Bool} {me : β → Res α} {kk : List α → Res ρ} {i : Nat} {y : Str} {py spos : Pos} (am : Amb X Z k) (ok : BlkOk X.N X.env.scope scope own) (hs : SJ X Z sp tg iter (.ok ys0) en)
    (hg : ∀ s H C cl fp, GJ (blkX X scope s H C cl fp) tg en is bd) (hc : ∀ y s H C cl fp, TJ (blkX X scope s H C cl fp) Z.mute (blkS sp own bd y) c (cm y)) (he : ∀ y s H C cl fp, EJ (blkX X scope s H C cl fp) Z.mute (blkS sp own bd y) elt (me y) en') (hr : ∀ v, BJ X Z Qr D ⟨sp.sl.set i (.own sp.ob.length), sp.ob ++ [.lst none en' v]⟩ rest (kk v)) (hi : ∀ i ∈ is, i ∈ own.map (·.2) := by decide) (hy : X.N[i]? = some y := by rfl) (hyl : X.env.scope.names.lookup y = some .local := by rfl)
    (hsw : swapsWith (.ListComp elt [⟨tg, iter, [c], 0⟩] scope pos) (some (.Name y py)) spos.line X.env = pure true := by exact sw_true rfl rfl rfl (by decide +kernel)) (hf : ∀ x, foldedSetIterable iter X.env x = pure x := by intro _; rfl) :
    BJ X Z Qr D sp (.Assign [.Name y py] (.ListComp elt [⟨tg, iter, [c], 0⟩] scope pos) spos :: rest) ((compM ys0 cm me).bi kk) := bj_lcifO am ok hs hg hc he hr hi hy hyl hsw hf
theorem bj_lcifF_pp {en : Enc X.K β} {en' : Enc X.K α} {ys0 : List β} {is : List Nat} {bd : β → List (Sl X.K) → List (Sl X.K)} {cb : β → Bool} {g : β → α} {kk : List α → Res ρ} {i : Nat} {y : Str} {py spos : Pos} (am : Amb X Z k) (ok : BlkOk X.N X.env.scope scope own) (hs : SJ X Z sp tg iter (.ok ys0) en)
    (hg : ∀ s H C cl fp, GJ (blkX X scope s H C cl fp) tg en is bd) (hc : ∀ y s H C cl fp, TJ (blkX X scope s H C cl fp) Z.mute (blkS sp own bd y) c (.ok (cb y))) (he : ∀ y s H C cl fp, EJ (blkX X scope s H C cl fp) Z.mute (blkS sp own bd y) elt (.ok (g y)) en') (hr : ∀ v, BJ X Z Qr D ⟨sp.sl.set i (.val (eL en') v), sp.ob⟩ rest (kk v)) (hi : ∀ i ∈ is, i ∈ own.map (·.2) := by decide) (hy : X.N[i]? = some y := by rfl) (hyl : X.env.scope.names.lookup y = some .local := by rfl)
    (hsw : swapsWith (.ListComp elt [⟨tg, iter, [c], 0⟩] scope pos) (some (.Name y py)) spos.line X.env = pure true := by exact sw_true rfl rfl rfl (by decide +kernel)) (hf : ∀ x, foldedSetIterable iter X.env x = pure x := by intro _; rfl) :
    BJ X Z Qr D sp (.Assign [.Name y py] (.ListComp elt [⟨tg, iter, [c], 0⟩] scope pos) spos :: rest) ((Res.ok ((ys0.filter cb).map g)).bi kk) := bj_lcifF_p am ok hs hg hc he hr hi hy hyl hsw hf
theorem bj_lcifF_sp {en : Enc X.K β} {en' : Enc X.K α} {ys0 : List β} {is : List Nat} {bd : β → List (Sl X.K) → List (Sl X.K)} {cm : β → Res Bool} {me : β → Res α} {kk : List α → Res ρ} {i : Nat} {y : Str} {py spos : Pos} (am : Amb X Z k) (ok : BlkOk X.N X.env.scope scope own) (hs : SJ X Z sp tg iter (.ok ys0) en)
    (hg : ∀ s H C cl fp, GJ (blkX X scope s H C cl fp) tg en is bd) (hc : ∀ y s H C cl fp, TJ (blkX X scope s H C cl fp) Z.mute (blkS sp own bd y) c (cm y)) (he : ∀ y s H C cl fp, EJ (blkX X scope s H C cl fp) Z.mute (blkS sp own bd y) elt (me y) en') (hr : ∀ v, BJ X Z Qr D ⟨sp.sl.set i (.val (eL en') v), sp.ob⟩ rest (kk v)) (hi : ∀ i ∈ is, i ∈ own.map (·.2) := by decide) (hy : X.N[i]? = some y := by rfl) (hyl : X.env.scope.names.lookup y = some .local := by rfl)
    (hsw : swapsWith (.ListComp elt [⟨tg, iter, [c], 0⟩] scope pos) (some (.Name y py)) spos.line X.env = pure true := by exact sw_true rfl rfl rfl (by decide +kernel)) (hf : ∀ x, foldedSetIterable iter X.env x = pure x := by intro _; rfl) :
    BJ X Z Qr D sp (.Assign [.Name y py] (.ListComp elt [⟨tg, iter, [c], 0⟩] scope pos) spos :: rest) ((compM ys0 cm me).bi kk) := bj_lcifF am ok hs hg hc he hr hi hy hyl hsw hf
end
end Wk

set_option Elab.async false
set_option linter.all false
set_option maxRecDepth 100000
set_option maxHeartbeats 4000000
namespace Wk
open PySem PySem.Spec PyProof.Rows L2
section
variable {X : Cx} {Z : Fz} {sp : Spec X.K} {a b c e : Expr} {es : List Expr} {pos p p2 fp : Pos} {α β γ δ ρ : Type} {k j : Nat} {x : Str} {F F' H H' : Hp} {ad : List Addr} {σ : Sg} {Qr : ρ → Prop} {D : Ends} {st : Stmt} {st' rest body : List Stmt} {m : Res ρ} {t : Option Addr} {tg it : Expr}
/-! ### a list of ours, walked -/
theorem SOk.tag {K : Frag} {sp : Spec K} {en : Enc K α} {xs : List α} {p : Addr} (S : SOk Z F ad sp σ H) (ho : sp.ob[k]? = some (.lst t en xs)) (hp : ad[k]? = some p) (t' : Option Addr) (ht : ∀ q, t' = some q → p = q) : SOk Z F ad ⟨sp.sl, sp.ob.set k (.lst t' en xs)⟩ σ H := by
  refine ⟨S.f0, S.fh, S.gh, S.fg, S.nd, S.st, S.len, S.sl, by simp [S.olen], fun i o h => ?_, S.lf.set hp S.nd (Same.refl _) (fun _ _ z => z) (fun _ _ => rfl) fun _ _ _ _ z => nomatch z⟩
  have h : (sp.ob.set k (.lst t' en xs))[i]? = some o := h
  by_cases e : i = k
  · subst e
    rw [List.getElem?_set_self (getElem?_some_of ho)] at h
    cases h
    obtain ⟨p', h1, vs, h2, hz, h3, h4, h5, _⟩ := S.ob i _ ho
    rw [hp] at h1
    have e : p = p' := Option.some.inj h1
    subst e
    exact ⟨p, hp, vs, h2, hz, h3, h4, h5, ht⟩
  · rw [List.getElem?_set_ne (Ne.symm e)] at h
    exact S.ob i o h
theorem bj_untag {en : Enc X.K α} {xs : List α} (ho : sp.ob[k]? = some (.lst t en xs)) (hr : BJ X Z Qr D ⟨sp.sl, sp.ob.set k (.lst none en xs)⟩ st' m) : BJ X Z Qr D sp st' m := fun F ad σ H S hm => by
  obtain ⟨p, hp, _⟩ := S.ob k _ ho
  exact hr F ad σ H (S.tag ho hp none fun q z => nomatch z) hm
theorem bj_forO {S : Type} {en : Enc X.K β} {ys : List β} {is : List Nat} {bd : β → List (Sl X.K) → List (Sl X.K)} {sps : Addr → S → Spec X.K} {B : β → S → (S → Res ρ) → Res ρ} {kk : S → Res ρ} {i o o2 : Nat} (am : Amb X Z k) (s0 : S) (hs : sp.sl[i]? = some (.own o)) (ho : sp.ob[o]? = some (.lst t en ys)) (hg : GJ X tg en is bd) {ks : List Nat}
    (le : ∀ q, Le ⟨sp.sl, sp.ob.set o (.lst (some q) en ys)⟩ (sps q s0) ks) (ho2 : ∀ q s, (sps q s).ob[o2]? = some (.lst (some q) en ys))
    (hb : ∀ q Z', ZX Z Z' → ∀ y s (next : S → Res ρ) nx bk, NX X Z' Qr nx (sps q) next → NX X Z' Qr bk (sps q) kk → BJ X Z' Qr { D with nx := nx, ct := nx, bk := bk } ⟨bd y (sps q s).sl, (sps q s).ob⟩ body (B y s next))
    (hr : ∀ q s, BJ X Z Qr D (sps q s) rest (kk s)) (hN : X.N[i]? = some x := by rfl)
    (hv : Vis X.env.scope x := by first | exact Or.inl rfl | exact Or.inr (Or.inl rfl) | exact Or.inr (Or.inr rfl)) (hd : (x == ("__debug__" : Str)) = false := by decide) (hcd : (x == ("__classdict__" : Str)) = false := by decide)
    (hf : ∀ y, foldedSetIterable (.Name x p) X.env y = pure y := by intro _; rfl) : BJ X Z Qr D sp (.For tg (.Name x p) body [] pos :: rest) (loopC ys s0 B kk) := fun F ad σ H S q => by
  refine seq (ofS (ps_for am.po am.calm (pi_list (pe_var (i := i) hN hv hd hcd)) pg_w pb_w hf) ?_)
  obtain ⟨q0, vs, h1, h2, h3, hz, h4, h5, h6, ht⟩ := S.own hs ho
  refine ⟨.ref q0, h1, q0, rfl, ⟨vs, SqL.of h3⟩, ?_⟩
  obtain ⟨zx, S1⟩ := (S.tag ho h2 (some q0) fun q z => Option.some.inj z).fwd
  refine ⟨fun i m σ' H' => m = ys.length - i ∧ i ≤ ys.length ∧ ∃ F' ad' s, SOk { Z with F0 := F } F' ad' (sps q0 s) σ' H' ∧ mwp (loopC (ys.drop i) s B kk) Qr Z.Er, ?_, ?_⟩
  · obtain ⟨ad', S'⟩ := (le q0).go _ F ad σ H S1
    exact ⟨_, rfl, Nat.zero_le _, F, ad', s0, S', q⟩
  · rintro i m σ' H' ⟨rfl, hi, F', ad', s, S', q⟩
    obtain ⟨q1, k1, ws, k2, _, k3, _, _, k4⟩ := S'.ob _ _ (ho2 q0 s)
    have e1 := k4 q0 rfl
    subst e1
    have hq : SqL X.K H' q1 ws := SqL.of k2
    by_cases hlt : i < ys.length
    · have hy : ys[i]? = some ys[i] := List.getElem?_eq_getElem hlt
      rw [List.drop_eq_getElem_cons hlt] at q
      obtain ⟨v, g1, g2⟩ := k3.get hy
      refine .inr ⟨⟨ws, v, hq, g1⟩, fun σ2 H2 => ∃ F2 ad2 s2, SOk { Z with F0 := F } F2 ad2 (sps q1 s2) σ2 H2 ∧ mwp (loopC (ys.drop (i + 1)) s2 B kk) Qr Z.Er, fun σ2 H2 ⟨F2, ad2, s2, S2, q2⟩ => ⟨ys.length - (i + 1), by omega, rfl, hlt, F2, ad2, s2, S2, q2⟩, fun x H'' hx => ?_⟩
      obtain ⟨rfl, g3⟩ := hx
      have e2 : v = x := Option.some.inj (g1.symm.trans (g3 ws hq))
      subst e2
      refine hg _ F' ad' (sps q1 s) σ' H'' v ys[i] _ S' g2 fun σ3 S3 _ _ => ?_
      exact hb q1 _ zx ys[i] s (fun s' => loopC (ys.drop (i + 1)) s' B kk) _ _ (fun s2 F2 ad2 σ2 H2 S2 q2 => ⟨F2, ad2, s2, S2, q2⟩) (fun s2 F2 ad2 σ2 H2 S2 q2 => hr q1 s2 F2 ad2 σ2 H2 (S2.back zx) q2) F' ad' σ3 H'' S3 q
    · have e : i = ys.length := by omega
      subst e
      rw [List.drop_length] at q
      exact .inl ⟨⟨ws, hq, by rw [k3.length]; exact Nat.le_refl _⟩, hr q1 s F' ad' σ' H' (S'.back zx) q⟩
theorem bj_forsO {S : Type} {en : Enc X.K β} {ys : List β} {is : List Nat} {bd : β → List (Sl X.K) → List (Sl X.K)} {sps : Addr → S → Spec X.K} {B : β → S → Res S} {kk : S → Res ρ} {i o o2 : Nat} (am : Amb X Z k) (s0 : S) (hs : sp.sl[i]? = some (.own o)) (ho : sp.ob[o]? = some (.lst t en ys)) (hg : GJ X tg en is bd) {ks : List Nat}
    (le : ∀ q, Le ⟨sp.sl, sp.ob.set o (.lst (some q) en ys)⟩ (sps q s0) ks) (ho2 : ∀ q s, (sps q s).ob[o2]? = some (.lst (some q) en ys))
    (hb : ∀ q Z', ZX Z Z' → ∀ y s (Q' : S → Prop) (D' : Ends), NX X Z' Q' D'.nx (sps q) .ok → BJ X Z' Q' D' ⟨bd y (sps q s).sl, (sps q s).ob⟩ body (B y s))
    (hr : ∀ q s, BJ X Z Qr D (sps q s) rest (kk s)) (hN : X.N[i]? = some x := by rfl)
    (hv : Vis X.env.scope x := by first | exact Or.inl rfl | exact Or.inr (Or.inl rfl) | exact Or.inr (Or.inr rfl)) (hd : (x == ("__debug__" : Str)) = false := by decide) (hcd : (x == ("__classdict__" : Str)) = false := by decide)
    (hf : ∀ y, foldedSetIterable (.Name x p) X.env y = pure y := by intro _; rfl) : BJ X Z Qr D sp (.For tg (.Name x p) body [] pos :: rest) ((foldM ys s0 B).bi kk) := fun F ad σ H S q => by
  refine seq (ofS (ps_for am.po am.calm (pi_list (pe_var (i := i) hN hv hd hcd)) pg_w pb_w hf) ?_)
  obtain ⟨q0, vs, h1, h2, h3, hz, h4, h5, h6, ht⟩ := S.own hs ho
  refine ⟨.ref q0, h1, q0, rfl, ⟨vs, SqL.of h3⟩, ?_⟩
  obtain ⟨zx, S1⟩ := (S.tag ho h2 (some q0) fun q z => Option.some.inj z).fwd
  refine ⟨fun i m σ' H' => m = ys.length - i ∧ i ≤ ys.length ∧ ∃ F' ad' s, SOk { Z with F0 := F } F' ad' (sps q0 s) σ' H' ∧ mwp ((foldM (ys.drop i) s B).bi kk) Qr Z.Er, ?_, ?_⟩
  · obtain ⟨ad', S'⟩ := (le q0).go _ F ad σ H S1
    exact ⟨_, rfl, Nat.zero_le _, F, ad', s0, S', q⟩
  · rintro i m σ' H' ⟨rfl, hi, F', ad', s, S', q⟩
    obtain ⟨q1, k1, ws, k2, _, k3, _, _, k4⟩ := S'.ob _ _ (ho2 q0 s)
    have e1 := k4 q0 rfl
    subst e1
    have hq : SqL X.K H' q1 ws := SqL.of k2
    by_cases hlt : i < ys.length
    · have hy : ys[i]? = some ys[i] := List.getElem?_eq_getElem hlt
      rw [List.drop_eq_getElem_cons hlt] at q
      have q : mwp (((B ys[i] s).bi fun s' => foldM (ys.drop (i + 1)) s' B).bi kk) Qr Z.Er := q
      rw [bi_bi] at q
      obtain ⟨v, g1, g2⟩ := k3.get hy
      refine .inr ⟨⟨ws, v, hq, g1⟩, fun σ2 H2 => ∃ F2 ad2 s2, SOk { Z with F0 := F } F2 ad2 (sps q1 s2) σ2 H2 ∧ mwp ((foldM (ys.drop (i + 1)) s2 B).bi kk) Qr Z.Er, fun σ2 H2 ⟨F2, ad2, s2, S2, q2⟩ => ⟨ys.length - (i + 1), by omega, rfl, hlt, F2, ad2, s2, S2, q2⟩, fun x H'' hx => ?_⟩
      obtain ⟨rfl, g3⟩ := hx
      have e2 : v = x := Option.some.inj (g1.symm.trans (g3 ws hq))
      subst e2
      refine hg _ F' ad' (sps q1 s) σ' H'' v ys[i] _ S' g2 fun σ3 S3 _ _ => ?_
      exact hb q1 _ zx ys[i] s (fun s' => mwp ((foldM (ys.drop (i + 1)) s' B).bi kk) Qr Z.Er) { D with nx := _, ct := _, bk := wB X rest D } (fun s2 F2 ad2 σ2 H2 S2 q2 => ⟨F2, ad2, s2, S2, q2⟩) F' ad' σ3 H'' S3 q.bi
    · have e : i = ys.length := by omega
      subst e
      rw [List.drop_length] at q
      exact .inl ⟨⟨ws, hq, by rw [k3.length]; exact Nat.le_refl _⟩, hr q1 s F' ad' σ' H' (S'.back zx) q⟩
end
end Wk

set_option Elab.async false
set_option linter.all false
set_option maxRecDepth 100000
set_option maxHeartbeats 4000000
namespace Wk
open PySem PySem.Spec PyProof.Rows L2
/-! ### defs that change what is handed in -/
def Sl.up {K : Frag} : Sl K → Sl K
  | .own k => .own (k + 1)
  | s => s
/-- a row of arguments, some of them lists that may be changed -/
structure ArM (K : Frag) (γ : Type) where
  rep : Hp → Hp → Hp → List Addr → List V → γ → Prop
  sl : γ → List (Sl K)
  ob : List Addr → γ → List (Ob K)
  ok : ∀ {F G H : Hp} {ad : List Addr} {vs : List V} {g : γ}, rep F G H ad vs g → vs.length = (sl g).length ∧ (∀ (i : Nat) (s : Sl K), (sl g)[i]? = some s → ∃ v, vs[i]? = some v ∧ slOk G F ad s (some v)) ∧
    (ob ad g).length = ad.length ∧ ∀ (k : Nat) (o : Ob K), (ob ad g)[k]? = some o → (∃ p, ad[k]? = some p ∧ obOk G F H o p) ∧ ∀ (α : Type) (t : Option Addr) (e : PkE K α) (xss : α), o ≠ .pk t e xss
section
variable {K : Frag} {α β γ δ ρ : Type}
theorem slOk.up {G F : Hp} {ad : List Addr} {p : Addr} {s : Sl K} {o : Option V} (h : slOk G F ad s o) : slOk G F (p :: ad) s.up o := by
  cases s with
  | any => trivial
  | val e a => exact h
  | bor e xs => exact h
  | own k => exact h
def am0 : ArM K Unit := ⟨fun _ _ _ ad vs _ => vs = [] ∧ ad = [], fun _ => [], fun _ _ => [], fun ⟨h, h2⟩ => by
  subst h h2
  exact ⟨rfl, fun i s e => by simp at e, rfl, fun k o e => by simp at e⟩⟩
def amV (e : Enc K α) (r : ArM K γ) : ArM K (α × γ) := ⟨fun F G H ad vs g => ∃ v ws, vs = v :: ws ∧ e.rep F v g.1 ∧ r.rep F G H ad ws g.2, fun g => .val e g.1 :: r.sl g.2, fun ad g => r.ob ad g.2, fun ⟨v, ws, h1, h2, h3⟩ => by
  subst h1
  obtain ⟨k1, k2, k3⟩ := r.ok h3
  refine ⟨by rw [List.length_cons, List.length_cons, k1], fun i s e => ?_, k3⟩
  cases i with
  | zero =>
    simp at e
    subst e
    exact ⟨v, rfl, v, rfl, h2⟩
  | succ i =>
    obtain ⟨u, q1, q2⟩ := k2 i s (by simpa using e)
    exact ⟨u, by simpa using q1, q2⟩⟩
def amL (e : Enc K α) (r : ArM K γ) : ArM K (List α × γ) := ⟨fun F G H ad vs g => ∃ p us ws, vs = .ref p :: ws ∧ SqL K G p us ∧ us.length ≤ sizeLine ∧ Reps e F us g.1 ∧ r.rep F G H ad ws g.2, fun g => .bor e g.1 :: r.sl g.2, fun ad g => r.ob ad g.2, fun ⟨p, us, ws, h1, h2, hz, h3, h4⟩ => by
  subst h1
  obtain ⟨k1, k2, k3⟩ := r.ok h4
  refine ⟨by rw [List.length_cons, List.length_cons, k1], fun i s e => ?_, k3⟩
  cases i with
  | zero =>
    simp at e
    subst e
    exact ⟨.ref p, rfl, p, us, rfl, h2, hz, h3⟩
  | succ i =>
    obtain ⟨u, q1, q2⟩ := k2 i s (by simpa using e)
    exact ⟨u, by simpa using q1, q2⟩⟩
/-- a list that may be changed; tg: whether the caller looks at it again -/
def amM (tg : Bool) (e : Enc K α) (r : ArM K γ) : ArM K (List α × γ) := ⟨fun F G H ad vs g => ∃ p us ws ad', vs = .ref p :: ws ∧ ad = p :: ad' ∧ H p = some (.lst us) ∧ us.length ≤ sizeLine ∧ Reps e F us g.1 ∧ F p = none ∧ G p = none ∧ r.rep F G H ad' ws g.2, fun g => .own 0 :: (r.sl g.2).map Sl.up,
  fun ad g => .lst (match tg with
    | true => ad.head?
    | false => none) e g.1 :: r.ob ad.tail g.2, fun {F G H ad vs g} ⟨p, us, ws, ad', h1, h0, h2, hz, h3, h5, h6, h4⟩ => by
  subst h1 h0
  obtain ⟨k1, k2, k3, k4⟩ := r.ok h4
  refine ⟨by rw [List.length_cons, List.length_cons, List.length_map, k1], fun i s e => ?_, by rw [List.length_cons, List.length_cons]; exact congrArg (· + 1) k3, fun k o e => ?_⟩
  · cases i with
    | zero =>
      simp at e
      subst e
      exact ⟨.ref p, rfl, p, rfl, rfl⟩
    | succ i =>
      have e : ((r.sl g.2).map Sl.up)[i]? = some s := by simpa using e
      rw [List.getElem?_map] at e
      cases q : (r.sl g.2)[i]? with
      | none => rw [q] at e; cases e
      | some s0 =>
        rw [q] at e
        have e : s0.up = s := Option.some.inj e
        subst e
        obtain ⟨u, q1, q2⟩ := k2 i s0 q
        exact ⟨u, by simpa using q1, q2.up⟩
  · cases k with
    | zero =>
      simp at e
      subst e
      refine ⟨⟨p, rfl, us, h2, hz, h3, h5, h6, fun q z => ?_⟩, fun _ _ _ _ z => nomatch z⟩
      cases tg with
      | true => exact Option.some.inj z
      | false => cases z
    | succ k =>
      obtain ⟨⟨q, q1, q2⟩, q3⟩ := k4 k o (by simpa using e)
      exact ⟨⟨q, by simpa using q1, q2⟩, q3⟩⟩
abbrev RtM (ρ : Type) := Hp → Hp → Hp → List Addr → V → ρ → Prop
def obsOk (G F H : Hp) (os : List (Ob K)) : Prop := ∀ o ∈ os, ∃ p, obOk G F H o p
def rmV (e : Enc K β) (obs : List Addr → δ → List (Ob K)) : RtM (β × δ) := fun G F' H' ad v r => e.rep F' v r.1 ∧ obsOk G F' H' (obs ad r.2)
def rmN (e : Enc K α) (obs : List Addr → δ → List (Ob K)) : RtM (List α × δ) := fun G F' H' ad v r => (∃ p vs, v = .ref p ∧ G p = none ∧ p ∉ ad ∧ F' p = none ∧ H' p = some (.lst vs) ∧ vs.length ≤ sizeLine ∧ Reps e F' vs r.1) ∧ obsOk G F' H' (obs ad r.2)
/-- .. what is handed back may be what was handed in -/
def rmO (e : Enc K α) : RtM (List α) := fun G F' H' _ v r => ∃ p vs, v = .ref p ∧ G p = none ∧ F' p = none ∧ H' p = some (.lst vs) ∧ vs.length ≤ sizeLine ∧ Reps e F' vs r
def spM (mg : Str → Option Value) (A : ArM K γ) (mf : γ → Res ρ) (R : RtM ρ) : Sp := fun vs H Q E => ∃ F G ad g, Same F H ∧ Same G H ∧ ad.Nodup ∧ (∀ p ∈ ad, H p ≠ none) ∧ A.rep F G H ad vs g ∧
  mwp (mf g) (fun r => ∀ F' H' v, Same F F' → Same F' H' → Same G H' → (∀ a, F' a ≠ none → F a ≠ none ∨ G a = none) → R G F' H' ad v r → Q v H') (fun c => ∀ C H', mg c = some (.ref C) → Same G H' → E (.ref C) none H')
end
section
variable {P : Program} {w : World} {K : Frag} {mg : Str → Option Value} {base : Heap} {γ ρ : Type}
theorem fn_okM {x qual : Str} {params : Arguments} {body : List Stmt} {scope : Scope} {f : Addr} {fd : FuncData} {N ps : List Str} {k : Nat} (F : FunD K x qual params body scope [] [] f fd) (S : FnScope N ps scope) {A : ArM K γ} {mf : γ → Res ρ} {R : RtM ρ} (hlen : ∀ g, (A.sl g).length = ps.length)
    (hb : ∀ (cdv : Value) (Ao : Around) (outer : List Env) (s : Shared) (H : Hp) (E : XK) (Z : Fz) (Qr : ρ → Prop) (D : Ends) (g : γ) (ad : List Addr), (A.ob ad g).length = ad.length → Amb (cxOf (L2.CX P w) P w K mg base N qual scope f cdv Ao outer s H E) Z k → RT Z (fun G F' H' v r => R G F' H' ad v r) Qr D.rt → (∀ v H', D.rt v H' → v = .non → ∀ σ, D.nx σ H') →
      BJ (cxOf (L2.CX P w) P w K mg base N qual scope f cdv Ao outer s H E) Z Qr D ⟨A.sl g ++ List.replicate (N.length - ps.length) .any, A.ob ad g⟩ body (mf g)) : FnOk P w K mg base (L2.CX P w) (k + 1) f fd ps (spM mg A mf R) := by
  refine F.ok S (fun vs H Q E h => ?_) fun cdv Ao outer s H vs Q E hr h => ?_
  · obtain ⟨F0, G, ad, g, _, _, _, _, hA, _⟩ := h
    rw [(A.ok hA).1, hlen]
  · obtain ⟨F0, G, ad, g, hF, hG, hnd, hst, hA, hm⟩ := h
    obtain ⟨hl, hs, hol, ho⟩ := A.ok hA
    refine ⟨_, pb_w, hb cdv Ao outer s H E ⟨F0, G, fun c => ∀ C H', mg c = some (.ref C) → Same G H' → E (.ref C) none H'⟩ (fun r => ∀ F' H' v, Same F0 F' → Same F' H' → Same G H' → (∀ a, F' a ≠ none → F0 a ≠ none ∨ G a = none) → R G F' H' ad v r → Q v H') { nx := fun _ H' => Q .non H', rt := Q } g ad hol
      ⟨hr, rfl, S.nd, passes_of rfl, E, takes_of rfl rfl rfl rfl, fun c h C H' hC sm => h C H' hC sm⟩
      (fun r F' H' v f0 fh gh fg hr q => q F' H' v f0 fh gh fg hr) (fun v H' h e _ => by subst e; exact h) F0 ad _ H ?_ hm⟩
    refine ⟨Same.refl _, hF, hG, fun a h => .inl h, hnd, hst, ?_, fun i (s : Sl K) h => ?_, hol, fun k o h => (ho k o h).1, Lf.nil fun k α t e xss h => (ho k _ h).2 α t e xss rfl⟩
    · have e1 : (A.sl g ++ (List.replicate (N.length - ps.length) .any : List (Sl K))).length = ps.length + (N.length - ps.length) := by simp [hlen]
      have e2 : (L2.start N vs).length = vs.length + (N.length - vs.length) := by simp [L2.start]
      exact e1.trans (by rw [e2, hl, hlen])
    · have h : (A.sl g ++ (List.replicate (N.length - ps.length) .any : List (Sl K)))[i]? = some s := h
      have hv : vs.length = ps.length := by rw [hl, hlen]
      have e0 : L2.start N vs = vs.map some ++ List.replicate (N.length - vs.length) none := rfl
      by_cases hi : i < (A.sl g).length
      · rw [List.getElem?_append_left hi] at h
        obtain ⟨v, h1, h2⟩ := hs i s h
        refine ⟨some v, ?_, h2⟩
        rw [e0, List.getElem?_append_left (by rw [List.length_map]; omega), List.getElem?_map, h1]
        rfl
      · have hl2 := getElem?_some_of h
        rw [List.length_append, List.length_replicate] at hl2
        rw [List.getElem?_append_right (by omega)] at h
        have e : s = .any := by
          rw [List.getElem?_replicate] at h
          split at h
          · exact (Option.some.inj h).symm
          · cases h
        subst e
        refine ⟨none, ?_, trivial⟩
        rw [e0, List.getElem?_append_right (by rw [List.length_map]; omega), List.getElem?_replicate, if_pos (by rw [List.length_map]; omega)]
end
section
variable {X : Cx} {Z : Fz} {sp : Spec X.K} {a b c e : Expr} {es : List Expr} {pos p p2 fp : Pos} {α β γ δ ρ θ : Type} {k j : Nat} {x : Str} {F F' H H' : Hp} {ad : List Addr} {σ : Sg} {Qr : ρ → Prop} {D : Ends} {st : Stmt} {st' rest body : List Stmt} {m : Res ρ} {t : Option Addr} {tg it : Expr}
/-! ### handed back -/
theorem obs_in {os : List (Ob X.K)} {ks : List Nat} (S : SOk Z F ad sp σ H) (lo : LeO sp.ob ks os) : obsOk Z.G F H os := fun o ho => by
  obtain ⟨i, hi⟩ := List.mem_iff_getElem?.mp ho
  obtain ⟨k, _, h2⟩ := lo.get hi
  obtain ⟨p, _, h3⟩ := S.ob k o h2
  exact ⟨p, h3⟩
theorem bj_retM {en : Enc X.K β} {obs : List Addr → δ → List (Ob X.K)} {qs : List Addr} {Qr : β × δ → Prop} {m : Res β} {ks : List Nat} (d : δ) (hR : RT Z (fun G F' H' v r => rmV en obs G F' H' qs v r) Qr D.rt) (h : EJ X Z sp e m en) (lo : LeO sp.ob ks (obs qs d)) : BJ X Z Qr D sp (.Return (some e) pos :: rest) (m.bi fun r => .ok (r, d)) := fun F ad σ H S hm => by
  refine seq (ofS (ps_ret pe_w) ?_)
  refine h F ad σ H _ S (hm.bi.imp fun r q F' H' v n hr => ?_)
  have S' := S.nx n
  exact hR (r, d) F' H' v S'.f0 S'.fh S'.gh S'.fg ⟨hr, obs_in S' lo⟩ q
theorem bj_retM_p {en : Enc X.K β} {obs : List Addr → δ → List (Ob X.K)} {qs : List Addr} {Qr : β × δ → Prop} {r : β} {ks : List Nat} (d : δ) (hR : RT Z (fun G F' H' v r => rmV en obs G F' H' qs v r) Qr D.rt) (h : EJ X Z sp e (.ok r) en) (lo : LeO sp.ob ks (obs qs d)) : BJ X Z Qr D sp (.Return (some e) pos :: rest) (.ok (r, d)) := bj_retM d hR h lo
theorem bj_retMN {obs : List Addr → δ → List (Ob X.K)} {qs : List Addr} {Qr : Unit × δ → Prop} {ks : List Nat} (d : δ) (hR : RT Z (fun G F' H' v r => rmV (eU : Enc X.K Unit) obs G F' H' qs v r) Qr D.rt) (lo : LeO sp.ob ks (obs qs d)) : BJ X Z Qr D sp (.Return none pos :: rest) (.ok ((), d)) := fun F ad σ H S hm => by
  refine seq (ofS ps_retN ?_)
  exact hR ((), d) F H .non S.f0 S.fh S.gh S.fg ⟨rfl, obs_in S lo⟩ hm
theorem bj_endM {obs : List Addr → δ → List (Ob X.K)} {qs : List Addr} {Qr : Unit × δ → Prop} {ks : List Nat} (d : δ) (hR : RT Z (fun G F' H' v r => rmV (eU : Enc X.K Unit) obs G F' H' qs v r) Qr D.rt) (hN : ∀ v H', D.rt v H' → v = .non → ∀ σ, D.nx σ H') (lo : LeO sp.ob ks (obs qs d)) : BJ X Z Qr D sp [] (.ok ((), d)) := fun F ad σ H S hm =>
  ofB pss_nil (hN _ _ (hR ((), d) F H .non S.f0 S.fh S.gh S.fg ⟨rfl, obs_in S lo⟩ hm) rfl σ)
/-- one of ours, or a new one, none of those handed in -/
theorem bj_retMO {en : Enc X.K α} {obs : List Addr → δ → List (Ob X.K)} {qs : List Addr} {Qr : List α × δ → Prop} {i : Nat} {y : Str} {xs : List α} {ks : List Nat} (d : δ) (hR : RT Z (fun G F' H' v r => rmN en obs G F' H' qs v r) Qr D.rt) (lo : LeO sp.ob ks (obs qs d))
    (hc : ∀ q ∈ qs, ∃ k' : Nat, k' ≠ k ∧ ∃ (α : Type) (e : Enc X.K α) (xs : List α), sp.ob[k']? = some (Ob.lst (some q) e xs)) (hs : sp.sl[i]? = some (.own k) := by rfl) (ho : sp.ob[k]? = some (.lst t en xs) := by rfl) (hN : X.N[i]? = some y := by rfl)
    (hv : Vis X.env.scope y := by first | exact Or.inl rfl | exact Or.inr (Or.inl rfl) | exact Or.inr (Or.inr rfl)) (hd : (y == ("__debug__" : Str)) = false := by decide) (hcd : (y == ("__classdict__" : Str)) = false := by decide) :
    BJ X Z Qr D sp (.Return (some (.Name y p)) pos :: rest) (.ok (xs, d)) := fun F ad σ H S hm => by
  refine seq (ofS (ps_ret (pe_var (i := i) hN hv hd hcd)) ?_)
  obtain ⟨q, vs, h1, h2, h3, hz, h4, h5, h6, _⟩ := S.own hs ho
  refine ⟨.ref q, h1, hR (xs, d) F H (.ref q) S.f0 S.fh S.gh S.fg ⟨⟨q, vs, rfl, h6, fun hq => ?_, h5, h3, hz, h4⟩, obs_in S lo⟩ hm⟩
  obtain ⟨k', ne, α', e', xs', g1⟩ := hc q hq
  obtain ⟨q', g2, _, _, _, _, _, _, g3⟩ := S.ob k' _ g1
  have := g3 q rfl
  subst this
  have l1 := getElem?_some_of h2
  have l2 := getElem?_some_of g2
  rw [List.getElem?_eq_getElem l1] at h2
  rw [List.getElem?_eq_getElem l2] at g2
  exact ne ((List.getElem_inj S.nd).mp ((Option.some.inj g2).trans (Option.some.inj h2).symm))
theorem bj_retMF {en : Enc X.K α} {obs : List Addr → δ → List (Ob X.K)} {qs : List Addr} {Qr : List α × δ → Prop} {m : Res (List α)} {ks : List Nat} (d : δ) (hR : RT Z (fun G F' H' v r => rmN en obs G F' H' qs v r) Qr D.rt) (h : FJ X Z sp e m en) (lo : LeO sp.ob ks (obs qs d))
    (hc : ∀ q ∈ qs, ∃ k' : Nat, ∃ (α : Type) (e : Enc X.K α) (xs : List α), sp.ob[k']? = some (Ob.lst (some q) e xs)) : BJ X Z Qr D sp (.Return (some e) pos :: rest) (m.bi fun r => .ok (r, d)) := fun F ad σ H S hm => by
  refine seq (ofS (ps_ret pe_w) ?_)
  refine h F ad σ H _ S (hm.bi.imp fun r q F' H' p vs n h1 h2 h3 hz h4 => ?_)
  have S' := S.nx n
  refine hR (r, d) F' H' (.ref p) S'.f0 S'.fh S'.gh S'.fg ⟨⟨p, vs, rfl, S.gh.free h1, fun hq => ?_, h2, h3, hz, h4⟩, obs_in S' lo⟩ q
  obtain ⟨k', α', e', xs', g1⟩ := hc p hq
  obtain ⟨q', g2, _, g4, _, _, _, _, g3⟩ := S.ob k' _ g1
  have := g3 p rfl
  subst this
  rw [h1] at g4
  cases g4
/-- moved in: whatever list of ours -/
theorem bj_retOO {en : Enc X.K α} {qs : List Addr} {Qr : List α → Prop} {i : Nat} {y : Str} {xs : List α} (hR : RT Z (fun G F' H' v r => rmO en G F' H' qs v r) Qr D.rt) (hs : sp.sl[i]? = some (.own k) := by rfl) (ho : sp.ob[k]? = some (.lst t en xs) := by rfl) (hN : X.N[i]? = some y := by rfl)
    (hv : Vis X.env.scope y := by first | exact Or.inl rfl | exact Or.inr (Or.inl rfl) | exact Or.inr (Or.inr rfl)) (hd : (y == ("__debug__" : Str)) = false := by decide) (hcd : (y == ("__classdict__" : Str)) = false := by decide) :
    BJ X Z Qr D sp (.Return (some (.Name y p)) pos :: rest) (.ok xs) := fun F ad σ H S hm => by
  refine seq (ofS (ps_ret (pe_var (i := i) hN hv hd hcd)) ?_)
  obtain ⟨q, vs, h1, h2, h3, hz, h4, h5, h6, _⟩ := S.own hs ho
  exact ⟨.ref q, h1, hR xs F H (.ref q) S.f0 S.fh S.gh S.fg ⟨q, vs, rfl, h6, h5, h3, hz, h4⟩ hm⟩
theorem bj_retOF {en : Enc X.K α} {qs : List Addr} {Qr : List α → Prop} {m : Res (List α)} (hR : RT Z (fun G F' H' v r => rmO en G F' H' qs v r) Qr D.rt) (h : FJ X Z sp e m en) : BJ X Z Qr D sp (.Return (some e) pos :: rest) m := fun F ad σ H S hm => by
  refine seq (ofS (ps_ret pe_w) ?_)
  refine h F ad σ H _ S (hm.imp fun r q F' H' p vs n h1 h2 h3 hz h4 => ?_)
  have S' := S.nx n
  exact hR r F' H' (.ref p) S'.f0 S'.fh S'.gh S'.fg ⟨p, vs, rfl, S.gh.free h1, h2, h3, hz, h4⟩ q
end
end Wk

set_option Elab.async false
set_option linter.all false
set_option maxRecDepth 100000
set_option maxHeartbeats 4000000
namespace Wk
open PySem PySem.Spec PyProof.Rows L2
section
variable {X : Cx} {Z : Fz} {sp : Spec X.K} {a b c e : Expr} {es : List Expr} {pos p p2 fp : Pos} {α β γ δ ρ θ : Type} {k j : Nat} {x : Str} {F F' H H' : Hp} {ad : List Addr} {σ : Sg} {Qr : ρ → Prop} {D : Ends} {st : Stmt} {st' rest body : List Stmt} {m : Res ρ} {t : Option Addr} {tg it : Expr} {ks : List (Option Nat)}
/-! ### such a def, called -/
def PkR (ad : List Addr) (H : Hp) : Option Nat → Addr → Prop
  | some k, p => ad[k]? = some p
  | none, p => H p = none
def AMJ (X : Cx) (Z : Fz) (sp : Spec X.K) (es : List Expr) {γ : Type} (m : Res γ) (A : ArM X.K γ) (ks : List (Option Nat)) : Prop :=
  ∀ (F : Hp) (ad : List Addr) (σ : Sg) (H : Hp) (Q : List V → Hp → Prop), SOk Z F ad sp σ H → mwp m (fun g => ∀ F' H' vs ps, Nx F H F' H' → Paired (PkR ad H) ks ps → ps.Nodup → (∀ p ∈ ps, F' p = none ∧ H' p ≠ none ∧ Z.G p = none) →
    (∀ G, Same F' G → Same Z.G G → (∀ p ∈ ps, G p = none) → A.rep F' G H' ps vs g) → Q vs H') Z.Er → wA X es σ H Q
theorem pk_back {H1 : Hp} (hh : Same H H1) {ps : List Addr} (h : Paired (PkR ad H1) ks ps) : Paired (PkR ad H) ks ps := Paired.imp (fun o p z => by
  cases o with
  | some k => exact z
  | none => exact hh.free z) h
theorem pk_mem {o : Option Nat} : ∀ {ks : List (Option Nat)} {ps : List Addr}, Paired (PkR ad H) ks ps → ∀ p ∈ ps, (∃ k, some k ∈ ks ∧ ad[k]? = some p) ∨ H p = none
  | _, _, .nil, p, hp => by cases hp
  | o :: ks, q :: ps, .cons r t, p, hp => by
    rcases List.mem_cons.mp hp with e | hp
    · subst e
      cases o with
      | some k => exact .inl ⟨k, List.mem_cons_self .., r⟩
      | none => exact .inr r
    · rcases pk_mem (o := o) t p hp with ⟨k, h1, h2⟩ | h
      · exact .inl ⟨k, List.mem_cons_of_mem _ h1, h2⟩
      · exact .inr h
theorem amj_nil : AMJ X Z sp [] (.ok ()) am0 [] := fun F ad σ H Q S hq => ofA pa_nil (hq F H [] [] S.refl .nil List.nodup_nil (fun _ h => nomatch h) fun _ _ _ _ => ⟨rfl, rfl⟩)
theorem amj_val {en : Enc X.K α} {A : ArM X.K γ} {m : Res α} {mr : Res γ} (h : EJ X Z sp e m en) (hr : AMJ X Z sp es mr A ks) (hn : nst e = true := by rfl) : AMJ X Z sp (e :: es) (m.bi fun x => mr.bi fun g => .ok (x, g)) (amV en A) ks := fun F ad σ H Q S hq => by
  refine ofA (pa_cons pe_w pa_w (star_cons hn)) ?_
  refine h F ad σ H _ S (hq.bi.imp fun x q F1 H1 v n1 r1 => ?_)
  refine hr F1 ad σ H1 _ (S.nx n1) (q.bi.imp fun g q F2 H2 vs ps n2 pk nd hp hrep => ?_)
  exact q F2 H2 _ ps (n1.trans n2) (pk_back n1.hh pk) nd hp fun G s1 s2 s3 => ⟨v, vs, rfl, en.mono n2.ff r1, hrep G s1 s2 s3⟩
theorem amj_lst {en : Enc X.K α} {A : ArM X.K γ} {m : Res (List α)} {mr : Res γ} (h : KJ X Z sp e m en) (hr : AMJ X Z sp es mr A ks) (hn : nst e = true := by rfl) : AMJ X Z sp (e :: es) (m.bi fun x => mr.bi fun g => .ok (x, g)) (amL en A) ks := fun F ad σ H Q S hq => by
  refine ofA (pa_cons pe_w pa_w (star_cons hn)) ?_
  refine h F ad σ H _ S (hq.bi.imp fun x q F1 H1 p us n1 h1 hz r1 => ?_)
  refine hr F1 ad σ H1 _ (S.nx n1) (q.bi.imp fun g q F2 H2 vs ps n2 pk nd hp hrep => ?_)
  refine q F2 H2 _ ps (n1.trans n2) (pk_back n1.hh pk) nd hp fun G s1 s2 s3 => ⟨p, us, vs, rfl, ?_, hz, r1.mono n2.ff, hrep G s1 s2 s3⟩
  rcases h1 with h1 | h1
  · exact SqL.of (s1 _ _ (n2.ff _ _ h1))
  · exact sqL_mono s2 h1
theorem amj_own {en : Enc X.K α} {A : ArM X.K γ} {xs : List α} {mr : Res γ} {i : Nat} {tb : Bool} (hr : AMJ X Z sp es mr A ks) (hk : some k ∉ ks) (hs : sp.sl[i]? = some (.own k) := by rfl) (ho : sp.ob[k]? = some (.lst t en xs) := by rfl) (hN : X.N[i]? = some x := by rfl)
    (hv : Vis X.env.scope x := by first | exact Or.inl rfl | exact Or.inr (Or.inl rfl) | exact Or.inr (Or.inr rfl)) (hd : (x == ("__debug__" : Str)) = false := by decide) (hcd : (x == ("__classdict__" : Str)) = false := by decide) :
    AMJ X Z sp (.Name x pos :: es) (mr.bi fun g => .ok (xs, g)) (amM tb en A) (some k :: ks) := fun F ad σ H Q S hq => by
  refine ofA (pa_cons (pe_var (i := i) hN hv hd hcd) pa_w (star_cons rfl)) ?_
  obtain ⟨q0, vs, h1, h2, h3, hz, h4, h5, h6, _⟩ := S.own hs ho
  refine ⟨.ref q0, h1, ?_⟩
  have hne : H q0 ≠ none := by rw [h3]; exact fun z => nomatch z
  refine hr F ad σ H _ S (hq.bi.imp fun g q F2 H2 ws ps n2 pk nd hp hrep => ?_)
  have hnot : q0 ∉ ps := fun z => by
    rcases pk_mem (o := none) pk q0 z with ⟨k', g1, g2⟩ | g
    · have l1 := getElem?_some_of h2
      have l2 := getElem?_some_of g2
      rw [List.getElem?_eq_getElem l1] at h2
      rw [List.getElem?_eq_getElem l2] at g2
      have e2 : k' = k := (List.getElem_inj S.nd).mp ((Option.some.inj g2).trans (Option.some.inj h2).symm)
      exact hk (e2 ▸ g1)
    · exact hne g
  have hf := n2.non h5 hne
  refine q F2 H2 _ (q0 :: ps) n2 (.cons h2 pk) (List.nodup_cons.mpr ⟨hnot, nd⟩) (fun p hp' => ?_) fun G s1 s2 s3 => ⟨q0, vs, ws, ps, rfl, rfl, n2.hh _ _ h3, hz, h4.mono n2.ff, hf, s3 q0 (List.mem_cons_self ..), hrep G s1 s2 fun p hp' => s3 p (List.mem_cons_of_mem _ hp')⟩
  rcases List.mem_cons.mp hp' with e | hp'
  · subst e
    exact ⟨hf, fun z => hne (n2.hh.free z), h6⟩
  · exact hp p hp'
theorem amj_new {en : Enc X.K α} {A : ArM X.K γ} {m : Res (List α)} {mr : Res γ} {tb : Bool} (h : FJ X Z sp e m en) (hr : AMJ X Z sp es mr A ks) (hn : nst e = true := by rfl) : AMJ X Z sp (e :: es) (m.bi fun x => mr.bi fun g => .ok (x, g)) (amM tb en A) (none :: ks) := fun F ad σ H Q S hq => by
  refine ofA (pa_cons pe_w pa_w (star_cons hn)) ?_
  refine h F ad σ H _ S (hq.bi.imp fun x q F1 H1 q0 us n1 h1 h2 h3 hz r1 => ?_)
  have hne : H1 q0 ≠ none := by rw [h3]; exact fun z => nomatch z
  refine hr F1 ad σ H1 _ (S.nx n1) (q.bi.imp fun g q F2 H2 ws ps n2 pk nd hp hrep => ?_)
  have hnot : q0 ∉ ps := fun z => by
    rcases pk_mem (o := none) pk q0 z with ⟨k', g1, g2⟩ | g
    · exact S.st q0 (List.mem_of_getElem? g2) h1
    · exact hne g
  have hf := n2.non h2 hne
  refine q F2 H2 _ (q0 :: ps) (n1.trans n2) (.cons h1 (pk_back n1.hh pk)) (List.nodup_cons.mpr ⟨hnot, nd⟩) (fun p hp' => ?_) fun G s1 s2 s3 => ⟨q0, us, ws, ps, rfl, rfl, n2.hh _ _ h3, hz, r1.mono n2.ff, hf, s3 q0 (List.mem_cons_self ..), hrep G s1 s2 fun p hp' => s3 p (List.mem_cons_of_mem _ hp')⟩
  rcases List.mem_cons.mp hp' with e | hp'
  · subst e
    exact ⟨hf, fun z => hne (n2.hh.free z), S.gh.free h1⟩
  · exact hp p hp'
theorem amj_val_p {en : Enc X.K α} {A : ArM X.K γ} {v : α} {g : γ} (h : EJ X Z sp e (.ok v) en) (hr : AMJ X Z sp es (.ok g) A ks) (hn : nst e = true := by rfl) : AMJ X Z sp (e :: es) (.ok (v, g)) (amV en A) ks := amj_val h hr hn
theorem amj_lst_p {en : Enc X.K α} {A : ArM X.K γ} {v : List α} {g : γ} (h : KJ X Z sp e (.ok v) en) (hr : AMJ X Z sp es (.ok g) A ks) (hn : nst e = true := by rfl) : AMJ X Z sp (e :: es) (.ok (v, g)) (amL en A) ks := amj_lst h hr hn
theorem amj_own_p {en : Enc X.K α} {A : ArM X.K γ} {xs : List α} {g : γ} {i : Nat} {tb : Bool} (hr : AMJ X Z sp es (.ok g) A ks) (hk : some k ∉ ks) (hs : sp.sl[i]? = some (.own k) := by rfl) (ho : sp.ob[k]? = some (.lst t en xs) := by rfl) (hN : X.N[i]? = some x := by rfl)
    (hv : Vis X.env.scope x := by first | exact Or.inl rfl | exact Or.inr (Or.inl rfl) | exact Or.inr (Or.inr rfl)) (hd : (x == ("__debug__" : Str)) = false := by decide) (hcd : (x == ("__classdict__" : Str)) = false := by decide) :
    AMJ X Z sp (.Name x pos :: es) (.ok (xs, g)) (amM tb en A) (some k :: ks) := amj_own hr hk hs ho hN hv hd hcd
theorem amj_new_p {en : Enc X.K α} {A : ArM X.K γ} {v : List α} {g : γ} {tb : Bool} (h : FJ X Z sp e (.ok v) en) (hr : AMJ X Z sp es (.ok g) A ks) (hn : nst e = true := by rfl) : AMJ X Z sp (e :: es) (.ok (v, g)) (amM tb en A) (none :: ks) := amj_new h hr hn
/-- all but some -/
def restH (H : Hp) (ps : List Addr) : Hp := fun a => if a ∈ ps then none else H a
theorem restH_in {ps : List Addr} {a : Addr} (h : a ∈ ps) : restH H ps a = none := if_pos h
theorem restH_out {ps : List Addr} {a : Addr} (h : a ∉ ps) : restH H ps a = H a := if_neg h
/-- what holds behind the call -/
theorem SOk.afterL {F1 H1 : Hp} {ps : List Addr} {ob' : List (Ob X.K)} (S0 : SOk Z F ad sp σ H) (n : Nx F H F1 H1) (pk : Paired (PkR ad H) ks ps) (hp : ∀ p ∈ ps, F1 p = none ∧ H1 p ≠ none ∧ Z.G p = none) (ff : Same F1 F') (fh : Same F' H') (gh : Same (restH H1 ps) H') (fg : ∀ a, F' a ≠ none → F1 a ≠ none ∨ restH H1 ps a = none)
    (hl : ob'.length = sp.ob.length) (hst : ∀ p ∈ ps, p ∈ ad → H' p ≠ none) (hob : ∀ (k : Nat) (o : Ob X.K), ob'[k]? = some o → (sp.ob[k]? = some o ∧ some k ∉ ks) ∨ ((∃ p, ad[k]? = some p ∧ obOk Z.G F' H' o p) ∧ ∀ (α : Type) (t : Option Addr) (e : PkE X.K α) (xss : α), o ≠ .pk t e xss)) : ∃ L, LfW Z.G F' H' ad ob' L ∧ ∀ k q, q ∈ L k → H q ≠ none := by
  have S := S0.nx n
  have zg : Same Z.G (restH H1 ps) := fun a o h => by
    have : a ∉ ps := fun z => by rw [(hp a z).2.2] at h; cases h
    rw [restH_out this]
    exact S.gh _ _ h
  have keep : ∀ a, a ∉ ps → ∀ o, H1 a = some o → H' a = some o := fun a ha o h => gh a o (by rw [restH_out ha]; exact h)
  have non : ∀ a, a ∉ ps → F1 a = none → H1 a ≠ none → F' a = none := fun a ha h1 h2 => by
    cases q : F' a with
    | none => rfl
    | some o =>
      rcases fg a (by rw [q]; exact fun z => nomatch z) with z | z
      · exact absurd h1 z
      · rw [restH_out ha] at z
        exact absurd z h2
  have notin : ∀ k p, ad[k]? = some p → some k ∉ ks → p ∉ ps := fun k p hkp hk z => by
    rcases pk_mem (o := none) pk p z with ⟨k', g1, g2⟩ | g
    · have l1 := getElem?_some_of hkp
      have l2 := getElem?_some_of g2
      rw [List.getElem?_eq_getElem l1] at hkp
      rw [List.getElem?_eq_getElem l2] at g2
      have e2 : k' = k := (List.getElem_inj S.nd).mp ((Option.some.inj g2).trans (Option.some.inj hkp).symm)
      exact hk (e2 ▸ g1)
    · exact S0.st p (List.mem_of_getElem? hkp) g
  obtain ⟨L, h⟩ := S0.lf
  have h' := h.nx n
  have nl : ∀ k q, q ∈ L k → q ∉ ps := fun k q hq z => by
    rcases pk_mem (o := none) pk q z with ⟨k', _, g2⟩ | g
    · exact (h.di k q hq).1 (List.mem_of_getElem? g2)
    · exact (h.di k q hq).2.2.2 g
  refine ⟨L, ⟨fun k q hq => ?_, h.un, h.nd, fun k α t e xss hk => ?_⟩, fun k q hq => (h.di k q hq).2.2.2⟩
  · obtain ⟨a, b, c, d⟩ := h'.di k q hq
    refine ⟨a, non q (nl k q hq) b d, c, fun z => ?_⟩
    cases e : H1 q with
    | none => exact d e
    | some o => rw [keep q (nl k q hq) o e] at z; cases z
  · rcases hob k _ hk with ⟨h1, h2⟩ | ⟨_, h2⟩
    · obtain ⟨p, g1, g2⟩ := h'.ok k α t e xss h1
      have hn := notin k p g1 h2
      exact ⟨p, g1, g2.go ff (fun q hq => keep q (nl k q hq)) (keep p hn) (non p hn g2.2.1 (e.st g2.1))⟩
    · exact absurd rfl (h2 α t e xss)
theorem SOk.after {F1 H1 : Hp} {ps : List Addr} {ob' : List (Ob X.K)} (S0 : SOk Z F ad sp σ H) (n : Nx F H F1 H1) (pk : Paired (PkR ad H) ks ps) (hp : ∀ p ∈ ps, F1 p = none ∧ H1 p ≠ none ∧ Z.G p = none) (ff : Same F1 F') (fh : Same F' H') (gh : Same (restH H1 ps) H') (fg : ∀ a, F' a ≠ none → F1 a ≠ none ∨ restH H1 ps a = none)
    (hl : ob'.length = sp.ob.length) (hst : ∀ p ∈ ps, p ∈ ad → H' p ≠ none) (hob : ∀ (k : Nat) (o : Ob X.K), ob'[k]? = some o → (sp.ob[k]? = some o ∧ some k ∉ ks) ∨ ((∃ p, ad[k]? = some p ∧ obOk Z.G F' H' o p) ∧ ∀ (α : Type) (t : Option Addr) (e : PkE X.K α) (xss : α), o ≠ .pk t e xss)) : SOk Z F' ad ⟨sp.sl, ob'⟩ σ H' := by
  have S := S0.nx n
  have zg : Same Z.G (restH H1 ps) := fun a o h => by
    have : a ∉ ps := fun z => by rw [(hp a z).2.2] at h; cases h
    rw [restH_out this]
    exact S.gh _ _ h
  have keep : ∀ a, a ∉ ps → ∀ o, H1 a = some o → H' a = some o := fun a ha o h => gh a o (by rw [restH_out ha]; exact h)
  have non : ∀ a, a ∉ ps → F1 a = none → H1 a ≠ none → F' a = none := fun a ha h1 h2 => by
    cases q : F' a with
    | none => rfl
    | some o =>
      rcases fg a (by rw [q]; exact fun z => nomatch z) with z | z
      · exact absurd h1 z
      · rw [restH_out ha] at z
        exact absurd z h2
  have notin : ∀ k p, ad[k]? = some p → some k ∉ ks → p ∉ ps := fun k p hkp hk z => by
    rcases pk_mem (o := none) pk p z with ⟨k', g1, g2⟩ | g
    · have l1 := getElem?_some_of hkp
      have l2 := getElem?_some_of g2
      rw [List.getElem?_eq_getElem l1] at hkp
      rw [List.getElem?_eq_getElem l2] at g2
      have e2 : k' = k := (List.getElem_inj S.nd).mp ((Option.some.inj g2).trans (Option.some.inj hkp).symm)
      exact hk (e2 ▸ g1)
    · exact S0.st p (List.mem_of_getElem? hkp) g
  have hLf := SOk.afterL S0 n pk hp ff fh gh fg hl hst hob
  refine ⟨S.f0.trans ff, fh, zg.trans gh, fun a h => ?_, S.nd, fun p hpa => ?_, S.len, fun i s h => ?_, hl.trans S.olen, fun k o h => ?_, ?_⟩
  · rcases fg a h with z | z
    · exact S.fg a z
    · exact .inr (zg.free z)
  · by_cases z : p ∈ ps
    · exact hst p z hpa
    · intro q
      have := S.st p hpa
      cases e : H1 p with
      | none => exact this e
      | some o => rw [keep p z o e] at q; cases q
  · obtain ⟨o, h1, h2⟩ := S.sl i s h
    exact ⟨o, h1, h2.mono ff⟩
  · rcases hob k o h with ⟨h1, h2⟩ | ⟨h1, _⟩
    · obtain ⟨p, g1, g2⟩ := S.ob k o h1
      refine ⟨p, g1, ?_⟩
      have hn := notin k p g1 h2
      cases o with
      | dead => trivial
      | pk t e xss => trivial
      | gen t e s =>
        obtain ⟨u, k1, k2, k3, k4⟩ := g2
        exact ⟨u, keep p hn _ k1, e.mono ff k2, non p hn k3 (by rw [k1]; exact fun z => nomatch z), k4⟩
      | lst t e xs =>
        obtain ⟨vs, k1, kz, k2, k3, k4⟩ := g2
        exact ⟨vs, keep p hn _ k1, kz, k2.mono ff, non p hn k3 (by rw [k1]; exact fun z => nomatch z), k4⟩
    · exact h1
  · exact let ⟨L, h, _⟩ := hLf
    ⟨L, h⟩
/-- the objects behind the call -/
structure MSt (ob : List (Ob X.K)) (ks : List (Option Nat)) (obs : List Addr → δ → List (Ob X.K)) (nob : δ → List (Ob X.K)) : Prop where
  len : ∀ d, (nob d).length = ob.length
  go : ∀ {Z : Fz} {ad ps : List Addr} {F H G F' H' : Hp} {d : δ}, Paired (PkR ad H) ks ps → (∀ (k : Nat) (o : Ob X.K), ob[k]? = some o → ∃ p, ad[k]? = some p ∧ obOk Z.G F H o p) → (∀ p ∈ ps, Z.G p = none) → (∀ p ∈ ad, H p ≠ none) → obsOk G F' H' (obs ps d) →
    (∀ (k : Nat) (o : Ob X.K), (nob d)[k]? = some o → (ob[k]? = some o ∧ some k ∉ ks) ∨ ((∃ p, ad[k]? = some p ∧ obOk Z.G F' H' o p) ∧ ∀ (α : Type) (t : Option Addr) (e : PkE X.K α) (xss : α), o ≠ .pk t e xss)) ∧ ∀ p ∈ ps, p ∈ ad → H' p ≠ none
def obs1 {K : Frag} (e : Enc K α) : List Addr → List α → List (Ob K) := fun qs d => [.lst qs.head? e d]
def obs2 {K : Frag} (e : Enc K α) (e' : Enc K β) : List Addr → List α × List β → List (Ob K) := fun qs d => [.lst qs.head? e d.1, .lst qs.tail.head? e' d.2]
theorem mst1 {ob : List (Ob X.K)} {en : Enc X.K α} {xs : List α} (h : ob[k]? = some (.lst t en xs)) : MSt ob [some k] (obs1 en) (fun d => ob.set k (.lst t en d)) := by
  refine ⟨fun d => List.length_set .., fun {Z ad ps F H G F' H' d} pk hob hg hst ho => ?_⟩
  have hps : ∃ p, ps = [p] ∧ ad[k]? = some p := by
    cases pk with
    | cons r rr =>
      cases rr
      exact ⟨_, rfl, r⟩
  obtain ⟨p, rfl, r⟩ := hps
  obtain ⟨p', vs, g1, gz, g2, g3, _, g5⟩ := ho _ (List.mem_cons_self ..)
  have e := g5 p rfl
  subst e
  obtain ⟨p2, k1, _, _, _, _, _, _, k2⟩ := hob k _ h
  rw [r] at k1
  have e := Option.some.inj k1
  subst e
  refine ⟨fun i o hi => ?_, fun q hq _ => ?_⟩
  · by_cases e : i = k
    · subst e
      rw [List.getElem?_set_self (getElem?_some_of h)] at hi
      cases hi
      exact .inr ⟨⟨p', r, vs, g1, gz, g2, g3, hg p' (List.mem_cons_self ..), k2⟩, fun _ _ _ _ z => nomatch z⟩
    · rw [List.getElem?_set_ne (Ne.symm e)] at hi
      exact .inl ⟨hi, fun z => e (by simpa using z)⟩
  · rw [List.mem_singleton] at hq
    rw [hq, g1]
    exact fun z => nomatch z
theorem mst2 {ob : List (Ob X.K)} {en : Enc X.K α} {en' : Enc X.K β} {xs : List α} {ys : List β} {k' : Nat} {t' : Option Addr} (h : ob[k]? = some (.lst t en xs)) (h' : ob[k']? = some (.lst t' en' ys)) (ne : k ≠ k' := by decide) : MSt ob [some k, some k'] (obs2 en en') (fun d => (ob.set k (.lst t en d.1)).set k' (.lst t' en' d.2)) := by
  refine ⟨fun d => by rw [List.length_set, List.length_set], fun {Z ad ps F H G F' H' d} pk hob hg hst ho => ?_⟩
  have hps : ∃ p p', ps = [p, p'] ∧ ad[k]? = some p ∧ ad[k']? = some p' := by
    cases pk with
    | cons r rr =>
      cases rr with
      | cons r' rr' =>
        cases rr'
        exact ⟨_, _, rfl, r, r'⟩
  obtain ⟨p, p', rfl, r, r'⟩ := hps
  obtain ⟨q, vs, g1, gz, g2, g3, _, g5⟩ := ho _ (List.mem_cons_self ..)
  obtain ⟨q', ws, f1, fz, f2, f3, _, f5⟩ := ho _ (List.mem_cons_of_mem _ (List.mem_cons_self ..))
  have e := g5 p rfl
  subst e
  have e := f5 p' rfl
  subst e
  obtain ⟨p2, k1, _, _, _, _, _, _, k2⟩ := hob k _ h
  rw [r] at k1
  have e := Option.some.inj k1
  subst e
  obtain ⟨p3, l1, _, _, _, _, _, _, l2⟩ := hob k' _ h'
  rw [r'] at l1
  have e := Option.some.inj l1
  subst e
  refine ⟨fun i o hi => ?_, fun x hx _ => ?_⟩
  · by_cases e' : i = k'
    · subst e'
      rw [List.getElem?_set_self (by rw [List.length_set]; exact getElem?_some_of h')] at hi
      cases hi
      exact .inr ⟨⟨q', r', ws, f1, fz, f2, f3, hg q' (List.mem_cons_of_mem _ (List.mem_cons_self ..)), l2⟩, fun _ _ _ _ z => nomatch z⟩
    · rw [List.getElem?_set_ne (Ne.symm e')] at hi
      by_cases e : i = k
      · subst e
        rw [List.getElem?_set_self (getElem?_some_of h)] at hi
        cases hi
        exact .inr ⟨⟨q, r, vs, g1, gz, g2, g3, hg q (List.mem_cons_self ..), k2⟩, fun _ _ _ _ z => nomatch z⟩
      · rw [List.getElem?_set_ne (Ne.symm e)] at hi
        exact .inl ⟨hi, fun z => by simp at z; rcases z with z | z; exact e z; exact e' z⟩
  · rcases List.mem_cons.mp hx with z | z
    · rw [z, g1]
      exact fun z => nomatch z
    · rw [List.mem_singleton] at z
      rw [z, f1]
      exact fun z => nomatch z
theorem callM_core {A : ArM X.K γ} {mf : γ → Res θ} {R : RtM θ} {ma : Res γ} (am : Amb X Z k) (C : Cal X.prog X.w X.K X.mg X.base x j (spM X.mg A mf R)) (hj : j ≤ k) (ha : AMJ X Z sp (e :: es) ma A ks) (hn : nst e = true) (hg : Gl X x)
    (hpl : (backTo pos (starEach es X.env)).any (·.1) = false) (hdb : (x == ("__debug__" : Str)) = false) (F : Hp) (ad : List Addr) (σ : Sg) (H : Hp) (Q : VK) (S : SOk Z F ad sp σ H)
    (hm : mwp (ma.bi mf) (fun r => ∀ F1 H1 F' H' v ps, Nx F H F1 H1 → Paired (PkR ad H) ks ps → (∀ p ∈ ps, F1 p = none ∧ H1 p ≠ none ∧ Z.G p = none) → Same F1 F' → Same F' H' → Same (restH H1 ps) H' → (∀ a, F' a ≠ none → F1 a ≠ none ∨ restH H1 ps a = none) → R (restH H1 ps) F' H' ps v r → Q v H') Z.Er) : wE X (.Call (.Name x fp) (e :: es) [] pos) σ H Q := by
  obtain ⟨f, fd, qs, G, hmg, hk, hb⟩ := C.ex
  obtain ⟨E, pE, hE⟩ := am.ps
  refine ofE (pe_call (E := E) G (am.hr.mono hj) hg hmg hk hb .nil (passes_call pE fun _ _ _ _ h => h) pa_w hdb (star_cons hn) hpl) ?_
  refine ha F ad σ H _ S (hm.bi.imp fun g q F1 H1 vs ps n1 pk nd hp hrep => ?_)
  show spM X.mg A mf R (vs ++ []) H1 Q E
  rw [List.append_nil]
  have zg : Same Z.G (restH H1 ps) := fun a o h => by
    have : a ∉ ps := fun z => by rw [(hp a z).2.2] at h; cases h
    rw [restH_out this]
    exact (S.gh.trans n1.hh) _ _ h
  have rh : Same (restH H1 ps) H1 := fun a o h => by
    by_cases z : a ∈ ps
    · rw [restH_in z] at h
      cases h
    · rw [restH_out z] at h
      exact h
  have fr : Same F1 (restH H1 ps) := fun a o h => by
    have : a ∉ ps := fun z => by rw [(hp a z).1] at h; cases h
    rw [restH_out this]
    exact n1.fh _ _ h
  exact ⟨F1, restH H1 ps, ps, g, n1.fh, rh, nd, fun p h => (hp p h).2.1, hrep _ fr zg fun p h => restH_in h, q.imp2 (fun r q F' H' v a b c d hr => q F1 H1 F' H' v ps n1 pk hp a b c d hr) fun c hc C H' hC s => hE c hc C H' hC (zg.trans s)⟩
variable {obs : List Addr → δ → List (Ob X.K)} {nob : δ → List (Ob X.K)}
/-- f(..) -/
theorem bj_exM {A : ArM X.K γ} {mf : γ → Res (β × δ)} {ma : Res γ} {kk : β × δ → Res ρ} {en : Enc X.K β} {pos' : Pos} (am : Amb X Z k) (C : Cal X.prog X.w X.K X.mg X.base x j (spM X.mg A mf (rmV en obs))) (hj : j ≤ k) (ha : AMJ X Z sp (e :: es) ma A ks) (mst : MSt sp.ob ks obs nob) (hr : ∀ r, BJ X Z Qr D ⟨sp.sl, nob r.2⟩ rest (kk r)) (hn : nst e = true := by rfl) (hg : Gl X x := by rfl)
    (hpl : (backTo pos (starEach es X.env)).any (·.1) = false := by rfl) (hdb : (x == ("__debug__" : Str)) = false := by decide) (hw : swapsWith (.Call (.Name x fp) (e :: es) [] pos) none pos'.line X.env = pure false := by rfl) : BJ X Z Qr D sp (.Expr (.Call (.Name x fp) (e :: es) [] pos) pos' :: rest) ((ma.bi mf).bi kk) := fun F ad σ H S hm => by
  refine seq (ofS (ps_expr pe_w hw) ?_)
  refine callM_core am C hj ha hn hg hpl hdb F ad σ H _ S (hm.bi.imp fun r q F1 H1 F' H' v ps n1 pk hp f1 f2 f3 f4 hR => ?_)
  obtain ⟨g1, g2⟩ := mst.go (d := r.2) pk S.ob (fun p h => (hp p h).2.2) S.st hR.2
  exact hr r F' ad σ H' (SOk.after S n1 pk hp f1 f2 f3 f4 (mst.len r.2) g2 g1) q
/-- y = f(..), a value -/
theorem bj_asM {A : ArM X.K γ} {mf : γ → Res (β × δ)} {ma : Res γ} {kk : β × δ → Res ρ} {en : Enc X.K β} {i : Nat} {y : Str} {py spos : Pos} (am : Amb X Z k) (C : Cal X.prog X.w X.K X.mg X.base x j (spM X.mg A mf (rmV en obs))) (hj : j ≤ k) (ha : AMJ X Z sp (e :: es) ma A ks) (mst : MSt sp.ob ks obs nob) (hr : ∀ r, BJ X Z Qr D ⟨sp.sl.set i (.val en r.1), nob r.2⟩ rest (kk r)) (hn : nst e = true := by rfl) (hg : Gl X x := by rfl)
    (hpl : (backTo pos (starEach es X.env)).any (·.1) = false := by rfl) (hdb : (x == ("__debug__" : Str)) = false := by decide) (hi : X.N[i]? = some y := by rfl) (hx : Loc X.env.scope y := by first | exact Or.inl rfl | exact Or.inr rfl)
    (hs : swapsWith (.Call (.Name x fp) (e :: es) [] pos) (some (.Name y py)) spos.line X.env = pure false := by rfl) (hf : X.fn y = true ∨ X.env.scope.names.lookup y = some .local := by first | exact .inl rfl | exact .inr rfl) : BJ X Z Qr D sp (.Assign [.Name y py] (.Call (.Name x fp) (e :: es) [] pos) spos :: rest) ((ma.bi mf).bi kk) := fun F ad σ H S hm => by
  refine seq (ofS (ps_set am.nd hi hx pe_w hs hf) ?_)
  refine callM_core am C hj ha hn hg hpl hdb F ad σ H _ S (hm.bi.imp fun r q F1 H1 F' H' v ps n1 pk hp f1 f2 f3 f4 hR => ?_)
  obtain ⟨g1, g2⟩ := mst.go (d := r.2) pk S.ob (fun p h => (hp p h).2.2) S.st hR.2
  exact hr r F' ad _ H' ((SOk.after S n1 pk hp f1 f2 f3 f4 (mst.len r.2) g2 g1).set ⟨v, rfl, hR.1⟩) q
/-- y = f(..), a new list -/
theorem SOk.push2 {K : Frag} {sp : Spec K} {en : Enc K α} {xs : List α} {q : Addr} {vs : List V} (S : SOk Z F ad sp σ H) (hq : q ∉ ad) (hF : F q = none) (hG : Z.G q = none) (hH : H q = some (.lst vs)) (hz : vs.length ≤ sizeLine) (r : Reps en F vs xs) (hL : ∃ L, LfW Z.G F H ad sp.ob L ∧ ∀ k, q ∉ L k) : SOk Z F (ad ++ [q]) ⟨sp.sl, sp.ob ++ [.lst none en xs]⟩ σ H := by
  refine ⟨S.f0, S.fh, S.gh, S.fg, ?_, fun a ha => ?_, S.len, fun i s h => ?_, ?_, fun k o h => ?_, ?_⟩
  · rw [List.nodup_append]
    exact ⟨S.nd, by simp, fun a ha b hb e => hq (by simp at hb; rw [← hb, ← e]; exact ha)⟩
  · rcases List.mem_append.mp ha with ha | ha
    · exact S.st a ha
    · simp at ha
      rw [ha, hH]
      exact fun z => nomatch z
  · obtain ⟨o, h1, h2⟩ := S.sl i s h
    exact ⟨o, h1, h2.push q⟩
  · simp [S.olen]
  · by_cases hk : k < sp.ob.length
    · have h : (sp.ob ++ [.lst none en xs])[k]? = some o := h
      rw [List.getElem?_append_left hk] at h
      obtain ⟨p, h1, h2⟩ := S.ob k o h
      exact ⟨p, by rw [List.getElem?_append_left (getElem?_some_of h1)]; exact h1, h2⟩
    · have h : (sp.ob ++ [.lst none en xs])[k]? = some o := h
      have hl := getElem?_some_of h
      have e : k = sp.ob.length := by simp at hl; omega
      subst e
      simp at h
      subst h
      exact ⟨q, by rw [S.olen]; simp, vs, hH, hz, r, hF, hG, fun q z => nomatch z⟩
  · obtain ⟨L, h, hq'⟩ := hL
    refine ⟨L, fun k x hx => ?_, h.un, h.nd, fun k α t e xss hk => ?_⟩
    · obtain ⟨a, b⟩ := h.di k x hx
      refine ⟨fun z => ?_, b⟩
      rcases List.mem_append.mp z with z | z
      · exact a z
      · rw [List.mem_singleton] at z
        subst z
        exact hq' k hx
    · have hk : (sp.ob ++ [.lst none en xs])[k]? = some (.pk t e xss) := hk
      by_cases hlt : k < sp.ob.length
      · rw [List.getElem?_append_left hlt] at hk
        obtain ⟨p, hp, r⟩ := h.ok k α t e xss hk
        exact ⟨p, by rw [List.getElem?_append_left (getElem?_some_of hp)]; exact hp, r⟩
      · have hl2 := getElem?_some_of hk
        rw [List.length_append, List.length_singleton] at hl2
        have e2 : k = sp.ob.length := by omega
        subst e2
        rw [List.getElem?_append_right (Nat.le_refl _), Nat.sub_self] at hk
        cases hk
theorem bj_asMN {A : ArM X.K γ} {mf : γ → Res (List α × δ)} {ma : Res γ} {kk : List α × δ → Res ρ} {en : Enc X.K α} {i : Nat} {y : Str} {py spos : Pos} (am : Amb X Z k) (C : Cal X.prog X.w X.K X.mg X.base x j (spM X.mg A mf (rmN en obs))) (hj : j ≤ k) (ha : AMJ X Z sp (e :: es) ma A ks) (mst : MSt sp.ob ks obs nob) (hr : ∀ r, BJ X Z Qr D ⟨sp.sl.set i (.own (nob r.2).length), nob r.2 ++ [.lst none en r.1]⟩ rest (kk r)) (hn : nst e = true := by rfl) (hg : Gl X x := by rfl)
    (hpl : (backTo pos (starEach es X.env)).any (·.1) = false := by rfl) (hdb : (x == ("__debug__" : Str)) = false := by decide) (hi : X.N[i]? = some y := by rfl) (hx : Loc X.env.scope y := by first | exact Or.inl rfl | exact Or.inr rfl)
    (hs : swapsWith (.Call (.Name x fp) (e :: es) [] pos) (some (.Name y py)) spos.line X.env = pure false := by rfl) (hf : X.fn y = true ∨ X.env.scope.names.lookup y = some .local := by first | exact .inl rfl | exact .inr rfl) : BJ X Z Qr D sp (.Assign [.Name y py] (.Call (.Name x fp) (e :: es) [] pos) spos :: rest) ((ma.bi mf).bi kk) := fun F ad σ H S hm => by
  refine seq (ofS (ps_set am.nd hi hx pe_w hs hf) ?_)
  refine callM_core am C hj ha hn hg hpl hdb F ad σ H _ S (hm.bi.imp fun r q F1 H1 F' H' v ps n1 pk hp f1 f2 f3 f4 hR => ?_)
  obtain ⟨g1, g2⟩ := mst.go (d := r.2) pk S.ob (fun p h => (hp p h).2.2) S.st hR.2
  have S' := SOk.after S n1 pk hp f1 f2 f3 f4 (mst.len r.2) g2 g1
  obtain ⟨⟨p0, vs, rfl, z1, z2, z3, z4, z5, z6⟩, _⟩ := hR
  have hH1 : H1 p0 = none := by rw [restH_out z2] at z1; exact z1
  have hH : H p0 = none := n1.hh.free hH1
  refine hr r F' (ad ++ [p0]) _ H' ((SOk.push2 S' (fun z => S.st p0 z hH) z3 (S.gh.free hH) z4 z5 z6 ?_).set ⟨p0, by rw [S'.olen]; simp, rfl⟩) q
  obtain ⟨L, hL, hL2⟩ := SOk.afterL S n1 pk hp f1 f2 f3 f4 (mst.len r.2) g2 g1
  exact ⟨L, hL, fun k hk => (hL2 k p0 hk) hH⟩
theorem bj_asO {A : ArM X.K γ} {mf : γ → Res (List α)} {ma : Res γ} {kk : List α → Res ρ} {en : Enc X.K α} {i : Nat} {y : Str} {py spos : Pos} (am : Amb X Z k) (C : Cal X.prog X.w X.K X.mg X.base x j (spM X.mg A mf (rmO en))) (hj : j ≤ k) (ha : AMJ X Z sp (e :: es) ma A [none]) (hr : ∀ r, BJ X Z Qr D ⟨sp.sl.set i (.own sp.ob.length), sp.ob ++ [.lst none en r]⟩ rest (kk r)) (hn : nst e = true := by rfl) (hg : Gl X x := by rfl)
    (hpl : (backTo pos (starEach es X.env)).any (·.1) = false := by rfl) (hdb : (x == ("__debug__" : Str)) = false := by decide) (hi : X.N[i]? = some y := by rfl) (hx : Loc X.env.scope y := by first | exact Or.inl rfl | exact Or.inr rfl)
    (hs : swapsWith (.Call (.Name x fp) (e :: es) [] pos) (some (.Name y py)) spos.line X.env = pure false := by rfl) (hf : X.fn y = true ∨ X.env.scope.names.lookup y = some .local := by first | exact .inl rfl | exact .inr rfl) : BJ X Z Qr D sp (.Assign [.Name y py] (.Call (.Name x fp) (e :: es) [] pos) spos :: rest) ((ma.bi mf).bi kk) := fun F ad σ H S hm => by
  refine seq (ofS (ps_set am.nd hi hx pe_w hs hf) ?_)
  refine callM_core am C hj ha hn hg hpl hdb F ad σ H _ S (hm.bi.imp fun r q F1 H1 F' H' v ps n1 pk hp f1 f2 f3 f4 hR => ?_)
  have hps : ∃ p, ps = [p] ∧ H p = none := by
    cases pk with
    | cons r rr =>
      cases rr
      exact ⟨_, rfl, r⟩
  obtain ⟨p, rfl, hpn⟩ := hps
  have g1 : ∀ (k : Nat) (o : Ob X.K), sp.ob[k]? = some o → (sp.ob[k]? = some o ∧ some k ∉ [(none : Option Nat)]) ∨ ((∃ p, ad[k]? = some p ∧ obOk Z.G F' H' o p) ∧ ∀ (α : Type) (t : Option Addr) (e : PkE X.K α) (xss : α), o ≠ .pk t e xss) := fun k o h => .inl ⟨h, by simp⟩
  have g2 : ∀ q ∈ [p], q ∈ ad → H' q ≠ none := fun q hq ha => by
    rw [List.mem_singleton] at hq
    subst hq
    exact absurd hpn (S.st q ha)
  have S' := SOk.after S n1 pk hp f1 f2 f3 f4 rfl g2 g1
  obtain ⟨p0, vs, rfl, z1, z3, z4, z5, z6⟩ := hR
  have hH : H p0 = none := by
    by_cases z : p0 ∈ [p]
    · rw [List.mem_singleton] at z
      rw [z]; exact hpn
    · rw [restH_out z] at z1
      exact n1.hh.free z1
  refine hr r F' (ad ++ [p0]) _ H' ((SOk.push2 S' (fun z => S.st p0 z hH) z3 (S.gh.free hH) z4 z5 z6 ?_).set ⟨p0, by rw [S'.olen]; simp, rfl⟩) q
  obtain ⟨L, hL, hL2⟩ := SOk.afterL S n1 pk hp f1 f2 f3 f4 rfl g2 g1
  exact ⟨L, hL, fun k hk => (hL2 k p0 hk) hH⟩
theorem bj_exM_p {A : ArM X.K γ} {mf : γ → Res (β × δ)} {g : γ} {kk : β × δ → Res ρ} {en : Enc X.K β} {pos' : Pos} (am : Amb X Z k) (C : Cal X.prog X.w X.K X.mg X.base x j (spM X.mg A mf (rmV en obs))) (hj : j ≤ k) (ha : AMJ X Z sp (e :: es) (.ok g) A ks) (mst : MSt sp.ob ks obs nob) (hr : ∀ r, BJ X Z Qr D ⟨sp.sl, nob r.2⟩ rest (kk r)) (hn : nst e = true := by rfl) (hg : Gl X x := by rfl)
    (hpl : (backTo pos (starEach es X.env)).any (·.1) = false := by rfl) (hdb : (x == ("__debug__" : Str)) = false := by decide) (hw : swapsWith (.Call (.Name x fp) (e :: es) [] pos) none pos'.line X.env = pure false := by rfl) : BJ X Z Qr D sp (.Expr (.Call (.Name x fp) (e :: es) [] pos) pos' :: rest) ((mf g).bi kk) := bj_exM am C hj ha mst hr hn hg hpl hdb hw
theorem bj_asM_p {A : ArM X.K γ} {mf : γ → Res (β × δ)} {g : γ} {kk : β × δ → Res ρ} {en : Enc X.K β} {i : Nat} {y : Str} {py spos : Pos} (am : Amb X Z k) (C : Cal X.prog X.w X.K X.mg X.base x j (spM X.mg A mf (rmV en obs))) (hj : j ≤ k) (ha : AMJ X Z sp (e :: es) (.ok g) A ks) (mst : MSt sp.ob ks obs nob) (hr : ∀ r, BJ X Z Qr D ⟨sp.sl.set i (.val en r.1), nob r.2⟩ rest (kk r)) (hn : nst e = true := by rfl) (hg : Gl X x := by rfl)
    (hpl : (backTo pos (starEach es X.env)).any (·.1) = false := by rfl) (hdb : (x == ("__debug__" : Str)) = false := by decide) (hi : X.N[i]? = some y := by rfl) (hx : Loc X.env.scope y := by first | exact Or.inl rfl | exact Or.inr rfl)
    (hs : swapsWith (.Call (.Name x fp) (e :: es) [] pos) (some (.Name y py)) spos.line X.env = pure false := by rfl) (hf : X.fn y = true ∨ X.env.scope.names.lookup y = some .local := by first | exact .inl rfl | exact .inr rfl) : BJ X Z Qr D sp (.Assign [.Name y py] (.Call (.Name x fp) (e :: es) [] pos) spos :: rest) ((mf g).bi kk) := bj_asM am C hj ha mst hr hn hg hpl hdb hi hx hs hf
theorem bj_asMN_p {A : ArM X.K γ} {mf : γ → Res (List α × δ)} {g : γ} {kk : List α × δ → Res ρ} {en : Enc X.K α} {i : Nat} {y : Str} {py spos : Pos} (am : Amb X Z k) (C : Cal X.prog X.w X.K X.mg X.base x j (spM X.mg A mf (rmN en obs))) (hj : j ≤ k) (ha : AMJ X Z sp (e :: es) (.ok g) A ks) (mst : MSt sp.ob ks obs nob) (hr : ∀ r, BJ X Z Qr D ⟨sp.sl.set i (.own (nob r.2).length), nob r.2 ++ [.lst none en r.1]⟩ rest (kk r)) (hn : nst e = true := by rfl) (hg : Gl X x := by rfl)
    (hpl : (backTo pos (starEach es X.env)).any (·.1) = false := by rfl) (hdb : (x == ("__debug__" : Str)) = false := by decide) (hi : X.N[i]? = some y := by rfl) (hx : Loc X.env.scope y := by first | exact Or.inl rfl | exact Or.inr rfl)
    (hs : swapsWith (.Call (.Name x fp) (e :: es) [] pos) (some (.Name y py)) spos.line X.env = pure false := by rfl) (hf : X.fn y = true ∨ X.env.scope.names.lookup y = some .local := by first | exact .inl rfl | exact .inr rfl) : BJ X Z Qr D sp (.Assign [.Name y py] (.Call (.Name x fp) (e :: es) [] pos) spos :: rest) ((mf g).bi kk) := bj_asMN am C hj ha mst hr hn hg hpl hdb hi hx hs hf
theorem bj_asO_p {A : ArM X.K γ} {mf : γ → Res (List α)} {g : γ} {kk : List α → Res ρ} {en : Enc X.K α} {i : Nat} {y : Str} {py spos : Pos} (am : Amb X Z k) (C : Cal X.prog X.w X.K X.mg X.base x j (spM X.mg A mf (rmO en))) (hj : j ≤ k) (ha : AMJ X Z sp (e :: es) (.ok g) A [none]) (hr : ∀ r, BJ X Z Qr D ⟨sp.sl.set i (.own sp.ob.length), sp.ob ++ [.lst none en r]⟩ rest (kk r)) (hn : nst e = true := by rfl) (hg : Gl X x := by rfl)
    (hpl : (backTo pos (starEach es X.env)).any (·.1) = false := by rfl) (hdb : (x == ("__debug__" : Str)) = false := by decide) (hi : X.N[i]? = some y := by rfl) (hx : Loc X.env.scope y := by first | exact Or.inl rfl | exact Or.inr rfl)
    (hs : swapsWith (.Call (.Name x fp) (e :: es) [] pos) (some (.Name y py)) spos.line X.env = pure false := by rfl) (hf : X.fn y = true ∨ X.env.scope.names.lookup y = some .local := by first | exact .inl rfl | exact .inr rfl) : BJ X Z Qr D sp (.Assign [.Name y py] (.Call (.Name x fp) (e :: es) [] pos) spos :: rest) ((mf g).bi kk) := bj_asO am C hj ha hr hn hg hpl hdb hi hx hs hf
end
end Wk

set_option Elab.async false
set_option linter.all false
set_option maxRecDepth 100000
set_option maxHeartbeats 4000000
namespace Wk
open PySem PySem.Spec PyProof.Rows L2
theorem Paired.get {α β : Type} {R : α → β → Prop} : ∀ {xs : List α} {ys : List β} {i : Nat} {y : β}, Paired R xs ys → ys[i]? = some y → ∃ x, xs[i]? = some x ∧ R x y
  | _, _, _, _, .nil, h => by simp at h
  | _, _, 0, _, .cons r _, h => by
    simp at h; subst h; exact ⟨_, rfl, r⟩
  | _, _, i + 1, _, .cons _ t, h => by
    obtain ⟨v, h1, h2⟩ := Paired.get (i := i) t (by simpa using h)
    exact ⟨v, by simpa using h1, h2⟩
section
variable {X : Cx} {Z : Fz} {sp : Spec X.K} {a b c e : Expr} {es : List Expr} {pos p p2 fp : Pos} {α β γ δ ρ θ : Type} {k j : Nat} {x : Str} {F F' H H' : Hp} {ad : List Addr} {σ : Sg} {Qr : ρ → Prop} {D : Ends} {st : Stmt} {st' rest body : List Stmt} {m : Res ρ} {t : Option Addr} {tg it : Expr}
/-! ### lists of lists of ours -/
def llOk {K : Frag} (G F H : Hp) {α : Type} (t : Option Addr) (e : Enc K α) (l : List Addr) (xss : List (List α)) (p : Addr) : Prop :=
  H p = some (.lst (l.map V.ref)) ∧ l.length ≤ sizeLine ∧ Paired (fun q xs => ∃ vs, H q = some (.lst vs) ∧ vs.length ≤ sizeLine ∧ Reps e F vs xs) l xss ∧ F p = none ∧ G p = none ∧ ∀ q, t = some q → p = q
theorem pk_ll {K : Frag} {G : Hp} {en : Enc K α} {l : List Addr} {xss : List (List α)} {q : Addr} : pkOk G F H t (pkLL en) l xss q ↔ llOk G F H t en l xss q := ⟨fun ⟨⟨h1, h2, h3⟩, h4, h5, h6⟩ => ⟨h1, h2, h3, h4, h5, h6⟩, fun ⟨h1, h2, h3, h4, h5, h6⟩ => ⟨⟨h1, h2, h3⟩, h4, h5, h6⟩⟩
theorem llOk.go {K : Frag} {G : Hp} {en : Enc K α} {l : List Addr} {xss : List (List α)} {q : Addr} (f : Same F F') (hl : ∀ q ∈ l, ∀ o, H q = some o → H' q = some o) (hp : ∀ o, H q = some o → H' q = some o) (hF : F' q = none) (h : llOk G F H t en l xss q) : llOk G F' H' t en l xss q := pk_ll.mp ((pk_ll.mpr h).go f hl hp hF)
theorem SOk.llset {K : Frag} {sp : Spec K} {en : Enc K α} {xss xss' : List (List α)} {o : Nat} {q0 : Addr} {L : Nat → List Addr} {l' : List Addr} (S : SOk Z F ad sp σ H) (W : LfW Z.G F H ad sp.ob L) (hp : ad[o]? = some q0) (hF : F q0 = none) (hG : Z.G q0 = none) (hol : o < sp.ob.length)
    (ha : ∀ a, a ≠ q0 → a ∉ l' → H' a = H a) (hb : ∀ q ∈ l', F q = none ∧ Z.G q = none ∧ q ∉ ad ∧ H' q ≠ none ∧ ∀ k, k ≠ o → q ∉ L k) (hn : l'.Nodup) (hd : llOk Z.G F H' t en l' xss' q0) : SOk Z F ad ⟨sp.sl, sp.ob.set o (.lls t en xss')⟩ σ H' := by
  have keep : ∀ a, F a ≠ none ∨ Z.G a ≠ none → H' a = H a := fun a h => ha a (fun z => by subst z; rcases h with h | h; exact h hF; exact h hG) fun z => by
    rcases h with h | h
    · exact h (hb a z).1
    · exact h (hb a z).2.1
  have others : ∀ (k : Nat) (p : Addr), k ≠ o → ad[k]? = some p → p ≠ q0 ∧ p ∉ l' := fun k p hk hkp => ⟨fun z => by
    subst z
    have l1 := getElem?_some_of hkp
    have l2 := getElem?_some_of hp
    rw [List.getElem?_eq_getElem l1] at hkp
    rw [List.getElem?_eq_getElem l2] at hp
    exact hk ((List.getElem_inj S.nd).mp ((Option.some.inj hkp).trans (Option.some.inj hp).symm)), fun z => (hb p z).2.2.1 (List.mem_of_getElem? hkp)⟩
  refine ⟨S.f0, fun a o h => ?_, fun a o h => ?_, S.fg, S.nd, fun a h => ?_, S.len, S.sl, by simp [S.olen], fun k ob h => ?_, ⟨fun k => if k = o then l' else L k, fun k q hq => ?_, fun k q hq k' hq' => ?_, fun k => ?_, fun k α' t' e' xs' h => ?_⟩⟩
  · rw [keep a (.inl (by rw [h]; exact fun z => nomatch z))]
    exact S.fh _ _ h
  · rw [keep a (.inr (by rw [h]; exact fun z => nomatch z))]
    exact S.gh _ _ h
  · by_cases e : a = q0
    · rw [e, hd.1]
      exact fun z => nomatch z
    · rw [ha a e fun z => (hb a z).2.2.1 h]
      exact S.st a h
  · have h : (sp.ob.set o (.lls t en xss'))[k]? = some ob := h
    by_cases e : k = o
    · subst e
      rw [List.getElem?_set_self hol] at h
      cases h
      exact ⟨q0, hp, trivial⟩
    · rw [List.getElem?_set_ne (Ne.symm e)] at h
      obtain ⟨p, h1, h2⟩ := S.ob k ob h
      refine ⟨p, h1, ?_⟩
      obtain ⟨n1, n2⟩ := others k p e h1
      cases ob with
      | dead => trivial
      | pk _ _ _ => trivial
      | gen t' e' ys =>
        obtain ⟨ws, g1, g2⟩ := h2
        exact ⟨ws, by rw [ha p n1 n2]; exact g1, g2⟩
      | lst t' e' ys =>
        obtain ⟨ws, g1, g2⟩ := h2
        exact ⟨ws, by rw [ha p n1 n2]; exact g1, g2⟩
  · have hq : q ∈ (if k = o then l' else L k) := hq
    by_cases e : k = o
    · rw [if_pos e] at hq
      obtain ⟨a, b, c, d, _⟩ := hb q hq
      exact ⟨c, a, b, d⟩
    · rw [if_neg e] at hq
      obtain ⟨a, b, c, d⟩ := W.di k q hq
      refine ⟨a, b, c, ?_⟩
      rw [ha q (fun z => by subst z; exact a (List.mem_of_getElem? hp)) fun z => (hb q z).2.2.2.2 k e hq]
      exact d
  · have hq : q ∈ (if k = o then l' else L k) := hq
    have hq' : q ∈ (if k' = o then l' else L k') := hq'
    by_cases e : k = o
    · rw [if_pos e] at hq
      by_cases e' : k' = o
      · rw [e, e']
      · rw [if_neg e'] at hq'
        exact absurd hq' ((hb q hq).2.2.2.2 k' e')
    · rw [if_neg e] at hq
      by_cases e' : k' = o
      · rw [if_pos e'] at hq'
        exact absurd hq ((hb q hq').2.2.2.2 k e)
      · rw [if_neg e'] at hq'
        exact W.un k q hq k' hq'
  · show (if k = o then l' else L k).Nodup
    split
    · exact hn
    · exact W.nd k
  · have h : (sp.ob.set o (.lls t en xss'))[k]? = some (.pk t' e' xs') := h
    by_cases e : k = o
    · subst e
      rw [List.getElem?_set_self hol] at h
      cases h
      refine ⟨q0, hp, ?_⟩
      show pkOk _ _ _ _ _ (if k = k then l' else L k) _ _
      rw [if_pos rfl]
      exact pk_ll.mpr hd
    · rw [List.getElem?_set_ne (Ne.symm e)] at h
      obtain ⟨p, h1, h2⟩ := W.ok k α' t' e' xs' h
      obtain ⟨n1, n2⟩ := others k p e h1
      refine ⟨p, h1, ?_⟩
      show pkOk _ _ _ _ _ (if k = o then l' else L k) _ _
      rw [if_neg e]
      exact h2.go (Same.refl _) (fun q hq o z => by rw [ha q (fun y => by subst y; exact (W.di k q hq).1 (List.mem_of_getElem? hp)) fun y => (hb q y).2.2.2.2 k e hq]; exact z) (fun o z => by rw [ha p n1 n2]; exact z) h2.2.1
/-- an empty list of ours, for lists of ours -/
theorem bj_ownLL {en : Enc X.K α} {i : Nat} {pos' : Pos} (am : Amb X Z k) (h : FJ X Z sp e (.ok ([] : List (List α))) (eL en)) (hr : BJ X Z Qr D ⟨sp.sl.set i (.own sp.ob.length), sp.ob ++ [.lls none en []]⟩ rest m) (hi : X.N[i]? = some x := by rfl) (hx : Loc X.env.scope x := by first | exact Or.inl rfl | exact Or.inr rfl)
    (hs : swapsWith e (some (.Name x pos')) pos.line X.env = pure false := by rfl) (hf : X.fn x = true ∨ X.env.scope.names.lookup x = some .local := by first | exact .inl rfl | exact .inr rfl) :
    BJ X Z Qr D sp (.Assign [.Name x pos'] e pos :: rest) m := fun F ad σ H S hm => by
  refine seq (ofS (ps_set am.nd hi hx pe_w hs hf) ?_)
  refine h F ad σ H _ S (fun F' H' q vs n h1 h2 h3 hz h4 => ?_)
  have S1 := S.push n h1 h2 h3 hz h4
  cases h4
  have hp : (ad ++ [q])[sp.ob.length]? = some q := by rw [S.olen]; simp
  obtain ⟨L, W⟩ := S1.lf
  have S2 := S1.llset (t := none) (en := en) (xss := ([] : List (List α))) (xss' := []) (o := sp.ob.length) (q0 := q) (l' := []) (L := L) W hp h2 (S.gh.free h1) (by simp) (fun _ _ _ => rfl) (fun _ h => nomatch h) List.nodup_nil ⟨h3, Nat.zero_le _, .nil, h2, S.gh.free h1, fun _ z => nomatch z⟩
  have e : (sp.ob ++ [Ob.lst none (eL en) []]).set sp.ob.length (.lls none en []) = sp.ob ++ [.lls none en []] := by
    rw [List.set_append_right _ _ (Nat.le_refl _), Nat.sub_self]
    rfl
  have S2 : SOk Z F' (ad ++ [q]) ⟨sp.sl, sp.ob ++ [.lls none en []]⟩ σ H' := by
    rw [← e]
    exact S2
  exact hr F' (ad ++ [q]) _ H' (S2.set ⟨q, by rw [S.olen]; simp, rfl⟩) hm
theorem SOk.ll {en : Enc X.K α} {xss : List (List α)} {i o : Nat} (S : SOk Z F ad sp σ H) (hs : sp.sl[i]? = some (.own o)) (ho : sp.ob[o]? = some (.lls t en xss)) : ∃ q L, σ[i]? = some (some (.ref q)) ∧ ad[o]? = some q ∧ LfW Z.G F H ad sp.ob L ∧ llOk Z.G F H t en (L o) xss q := by
  obtain ⟨o', h1, q, h2, h3⟩ := S.sl i _ hs
  obtain ⟨L, W⟩ := S.lf
  obtain ⟨p, h4, h5⟩ := W.ok o _ t (pkLL en) xss ho
  rw [h2] at h4
  have e : q = p := Option.some.inj h4
  subst e
  exact ⟨q, L, by rw [h1, h3], h2, W, pk_ll.mp h5⟩
/-- x.append(a new list) -/
theorem bj_llapp {en : Enc X.K α} {me : Res (List α)} {kk : List (List α) → Res ρ} {i o : Nat} {xss : List (List α)} {apos cpos : Pos} (hs : sp.sl[i]? = some (.own o)) (ho : sp.ob[o]? = some (.lls t en xss)) (h : FJ X Z sp e me en) (hr : ∀ v, BJ X Z Qr D ⟨sp.sl, sp.ob.set o (.lls t en v)⟩ rest (kk v)) (hN : X.N[i]? = some x := by rfl) (hn : nst e = true := by rfl)
    (hline : (apos.endLine == cpos.line) = true := by rfl) (hv : Vis X.env.scope x := by first | exact Or.inl rfl | exact Or.inr (Or.inl rfl) | exact Or.inr (Or.inr rfl)) (hd : (x == ("__debug__" : Str)) = false := by decide) (hcd : (x == ("__classdict__" : Str)) = false := by decide)
    (hbase : attributeBase (.Name x p) "append" X.env (eval (.Name x p) X.env) = eval (.Name x p) X.env := by rfl)
    (hw : swapsWith (.Call (.Attribute (.Name x p) "append" apos) [e] [] cpos) none pos.line X.env = pure false := by rfl) :
    BJ X Z Qr D sp (.Expr (.Call (.Attribute (.Name x p) "append" apos) [e] [] cpos) pos :: rest) (me.bi fun y => (appM xss y).bi kk) := fun F ad σ H S hm => by
  refine seq (ofS (ps_expr (pe_bm PySem.F.plainAttrs_list PySem.F.slot_list_append PySem.F.type_list_append mt_append (pe_var (i := i) hN hv hd hcd) (pa_cons pe_w pa_nil (star_cons hn)) hbase (by rw [star_cons hn]; rfl) hline (star_cons hn) rfl) hw) ?_)
  obtain ⟨q0, L, h1, h2, W, hk⟩ := S.ll hs ho
  refine ⟨.ref q0, h1, tyV_own hk.1, ?_⟩
  refine h F ad σ H _ S (hm.bi.imp fun y g F1 H1 q ws n r1 r2 r3 rz r4 => ?_)
  obtain ⟨c, g⟩ := g.bi.gd
  have S1 := S.nx n
  have W1 := W.nx n
  have hk1 : llOk Z.G F1 H1 t en (L o) xss q0 := hk.go n.ff (fun q _ => n.hh q) (n.hh q0) (n.non hk.2.2.2.1 (by rw [hk.1]; exact fun z => nomatch z))
  obtain ⟨k1, k2, k3, k4, k5, k6⟩ := hk1
  have hlen : (L o).length = xss.length := Paired.length k3
  have hl : ((L o).map V.ref).length < sizeLine := by rw [List.length_map, hlen]; exact c
  refine ⟨q0, (L o).map V.ref, .ref q, rfl, rfl, k1, hl, ?_⟩
  have nq : q ≠ q0 := fun z => by subst z; rw [hk.1] at r1; cases r1
  have nL : ∀ k, q ∉ L k := fun k z => (W.di k q z).2.2.2 r1
  have nd : ∀ x ∈ L o, x ≠ q0 := fun x hx z => by subst z; exact (W.di o x hx).1 (List.mem_of_getElem? h2)
  refine hr _ F1 ad σ _ (S1.llset (t := t) (en := en) (xss := xss) (xss' := xss ++ [y]) (o := o) (q0 := q0) (l' := L o ++ [q]) (L := L) W1 h2 k4 k5 (getElem?_some_of ho) (fun a ha _ => upd_ne ha) (fun x hx => ?_) ?_ ⟨?_, ?_, ?_, k4, k5, k6⟩) g
  · rcases List.mem_append.mp hx with hx | hx
    · obtain ⟨a, b, c, d⟩ := W1.di o x hx
      exact ⟨b, c, a, by rw [upd_ne (nd x hx)]; exact d, fun k hk z => hk ((W.un o x hx k z))⟩
    · rw [List.mem_singleton] at hx
      subst hx
      exact ⟨r2, S.gh.free r1, fun z => S.st x z r1, by rw [upd_ne nq, r3]; exact (fun z => nomatch z), fun k _ => nL k⟩
  · rw [List.nodup_append]
    exact ⟨W.nd o, by simp, fun a ha b hb z => by rw [List.mem_singleton] at hb; subst hb; subst z; exact nL o ha⟩
  · rw [upd_same, List.map_append]
    rfl
  · rw [List.length_append, List.length_singleton]
    rw [List.length_map] at hl
    exact hl
  · refine Paired.snoc ?_ ⟨ws, by rw [upd_ne nq]; exact r3, rz, r4⟩
    have : ∀ {l : List Addr} {zs : List (List α)}, (∀ x ∈ l, x ≠ q0) → Paired (fun a xs => ∃ vs, H1 a = some (.lst vs) ∧ vs.length ≤ sizeLine ∧ Reps en F1 vs xs) l zs → Paired (fun a xs => ∃ vs, (L2.upd H1 q0 (.lst ((L o).map V.ref ++ [.ref q]))) a = some (.lst vs) ∧ vs.length ≤ sizeLine ∧ Reps en F1 vs xs) l zs := fun {l zs} hne hz => by
      induction hz with
      | nil => exact .nil
      | cons r _ ih =>
        obtain ⟨vs, z1, z2⟩ := r
        exact .cons ⟨vs, by rw [upd_ne (hne _ (List.mem_cons_self ..))]; exact z1, z2⟩ (ih fun x hx => hne x (List.mem_cons_of_mem _ hx))
    exact this nd k3
/-- x[i].append(e) -/
theorem ll_at {xss : List (List α)} {l : List Addr} {R : Addr → List α → Prop} (h : Paired R l xss) {i : Int} {ys : List α} (hi : atI xss i = some ys) : ∃ n q, ixN xss.length i = some n ∧ l[n]? = some q ∧ xss[n]? = some ys ∧ R q ys ∧ atI (l.map V.ref) i = some (.ref q) := by
  unfold atI at hi
  cases e : ixN xss.length i with
  | none => rw [e] at hi; cases hi
  | some n =>
    rw [e] at hi
    obtain ⟨q, h1, h2⟩ := Paired.get h hi
    refine ⟨n, q, rfl, h1, hi, h2, ?_⟩
    unfold atI
    rw [List.length_map, show l.length = xss.length from Paired.length h, e]
    show (l.map V.ref)[n]? = _
    rw [List.getElem?_map, h1]
    rfl
theorem bj_llsub {en : Enc X.K α} {me : Res α} {mi : Res Int} {kk : List (List α) → Res ρ} {i o : Nat} {xss : List (List α)} {ie : Expr} {spos apos cpos : Pos} (hs : sp.sl[i]? = some (.own o)) (ho : sp.ob[o]? = some (.lls t en xss)) (hi : EJ X Z sp ie mi eI) (h : EJ X Z sp e me en) (hr : ∀ v, BJ X Z Qr D ⟨sp.sl, sp.ob.set o (.lls t en v)⟩ rest (kk v)) (hN : X.N[i]? = some x := by rfl) (hn : nst e = true := by rfl) (hpi : PlainIx ie := by intro _ _; rfl)
    (hline : (apos.endLine == cpos.line) = true := by rfl) (hv : Vis X.env.scope x := by first | exact Or.inl rfl | exact Or.inr (Or.inl rfl) | exact Or.inr (Or.inr rfl)) (hd : (x == ("__debug__" : Str)) = false := by decide) (hcd : (x == ("__classdict__" : Str)) = false := by decide)
    (hbase : attributeBase (.Subscript (.Name x p) ie spos) "append" X.env (eval (.Subscript (.Name x p) ie spos) X.env) = eval (.Subscript (.Name x p) ie spos) X.env := by rfl)
    (hw : swapsWith (.Call (.Attribute (.Subscript (.Name x p) ie spos) "append" apos) [e] [] cpos) none pos.line X.env = pure false := by rfl) :
    BJ X Z Qr D sp (.Expr (.Call (.Attribute (.Subscript (.Name x p) ie spos) "append" apos) [e] [] cpos) pos :: rest) (mi.bi fun j => (geti xss j).bi fun ys => me.bi fun y => (appM ys y).bi fun zs => (seti xss j zs).bi kk) := fun F ad σ H S hm => by
  refine seq (ofS (ps_expr (pe_bm PySem.F.plainAttrs_list PySem.F.slot_list_append PySem.F.type_list_append mt_append (pe_ix ix_list (pe_var (i := i) hN hv hd hcd) pe_w hpi) (pa_cons pe_w pa_nil (star_cons hn)) hbase (by rw [star_cons hn]; rfl) hline (star_cons hn) rfl) hw) ?_)
  obtain ⟨q0, L, h1, h2, W, hk⟩ := S.ll hs ho
  refine ⟨.ref q0, h1, ?_⟩
  refine hi F ad σ H _ S (hm.bi.imp fun jj g F1 H1 v n1 r1 => ?_)
  have r1 : v = .int jj := r1
  subst r1
  have hk1 : llOk Z.G F1 H1 t en (L o) xss q0 := hk.go n1.ff (fun q _ => n1.hh q) (n1.hh q0) (n1.non hk.2.2.2.1 (by rw [hk.1]; exact fun z => nomatch z))
  obtain ⟨ys, hat, g⟩ := g.bi.geti
  obtain ⟨k1, k2, k3, k4, k5, k6⟩ := hk1
  obtain ⟨n, q, e1, e2, e3, ⟨ws, e4, ez, e5⟩, e6⟩ := ll_at k3 hat
  refine ⟨q0, (L o).map V.ref, jj, .ref q, rfl, rfl, SqL.of k1, e6, tyV_own e4, ?_⟩
  have hql : q ∈ L o := List.mem_of_getElem? e2
  obtain ⟨d1, d2, d3, d4⟩ := W.di o q hql
  refine h F1 ad σ H1 _ (S.nx n1) (g.bi.imp fun y g F2 H2 u n2 r2 => ?_)
  obtain ⟨c, g⟩ := g.bi.gd
  have n12 := n1.trans n2
  have S2 := S.nx n12
  have W2 := W.nx n12
  have hl : ws.length < sizeLine := by rw [e5.length]; exact c
  have hq2 := n2.hh _ _ e4
  refine ⟨q, ws, u, rfl, rfl, hq2, hl, ?_⟩
  have hset : seti xss jj (ys ++ [y]) = .ok (xss.set n (ys ++ [y])) := by
    unfold seti
    rw [e1]
  rw [hset] at g
  have nd : ∀ x ∈ L o, x ≠ q0 := fun x hx z => by subst z; exact (W.di o x hx).1 (List.mem_of_getElem? h2)
  have nq0 : q0 ≠ q := fun z => nd q hql z.symm
  have k4' := n2.non k4 (by rw [k1]; exact fun z => nomatch z)
  refine hr _ F2 ad σ _ (S2.llset (t := t) (en := en) (xss := xss) (xss' := xss.set n (ys ++ [y])) (o := o) (q0 := q0) (l' := L o) (L := L) W2 h2 k4' k5 (getElem?_some_of ho) (fun a _ ha => upd_ne fun z => ha (z ▸ hql)) (fun x hx => ?_) (W.nd o) ⟨?_, k2, ?_, k4', k5, k6⟩) g
  · obtain ⟨a, b, c, d⟩ := W2.di o x hx
    refine ⟨b, c, a, ?_, fun k hk z => hk (W.un o x hx k z)⟩
    by_cases e : x = q
    · rw [e, upd_same]
      exact fun z => nomatch z
    · rw [upd_ne e]
      exact d
  · rw [upd_ne nq0]
    exact n2.hh _ _ k1
  · have key : ∀ {l : List Addr} {zs : List (List α)} {n : Nat}, l.Nodup → l[n]? = some q → Paired (fun a xs => ∃ vs, H1 a = some (.lst vs) ∧ vs.length ≤ sizeLine ∧ Reps en F1 vs xs) l zs → Paired (fun a xs => ∃ vs, (L2.upd H2 q (.lst (ws ++ [u]))) a = some (.lst vs) ∧ vs.length ≤ sizeLine ∧ Reps en F2 vs xs) l (zs.set n (ys ++ [y])) := by
      intro l zs n hnd hn hz
      induction hz generalizing n with
      | nil => exact .nil
      | cons r tl ih =>
        rename_i a0 b0 l0 z0
        rw [List.nodup_cons] at hnd
        obtain ⟨vs, z1, z2, z3⟩ := r
        cases n with
        | zero =>
          have e : a0 = q := by simpa using hn
          subst e
          refine .cons ⟨ws ++ [u], upd_same, by rw [List.length_append]; exact hl, (e5.mono n2.ff).snoc r2⟩ ?_
          have rest : ∀ {l : List Addr} {zs : List (List α)}, a0 ∉ l → Paired (fun a xs => ∃ vs, H1 a = some (.lst vs) ∧ vs.length ≤ sizeLine ∧ Reps en F1 vs xs) l zs → Paired (fun a xs => ∃ vs, (L2.upd H2 a0 (.lst (ws ++ [u]))) a = some (.lst vs) ∧ vs.length ≤ sizeLine ∧ Reps en F2 vs xs) l zs := fun {l zs} hne hz => by
            induction hz with
            | nil => exact .nil
            | cons r _ ih =>
              obtain ⟨vs, z1, z2, z3⟩ := r
              rw [List.mem_cons, not_or] at hne
              exact .cons ⟨vs, by rw [upd_ne (Ne.symm hne.1)]; exact n2.hh _ _ z1, z2, z3.mono n2.ff⟩ (ih hne.2)
          exact rest hnd.1 tl
        | succ n =>
          have hn' : l0[n]? = some q := by simpa using hn
          have hm := List.mem_of_getElem? hn'
          exact .cons ⟨vs, by rw [upd_ne (fun z => hnd.1 (by rw [z]; exact hm))]; exact n2.hh _ _ z1, z2, z3.mono n2.ff⟩ (ih hnd.2 hn')
    exact key (W.nd o) e2 k3
/-- x[i], read -/
theorem lj_llix {en : Enc X.K α} {mi : Res Int} {i o : Nat} {xss : List (List α)} {ie : Expr} (hi : EJ X Z sp ie mi eI) (hs : sp.sl[i]? = some (.own o) := by rfl) (ho : sp.ob[o]? = some (.lls t en xss) := by rfl) (hN : X.N[i]? = some x := by rfl) (hpi : PlainIx ie := by intro _ _; rfl)
    (hv : Vis X.env.scope x := by first | exact Or.inl rfl | exact Or.inr (Or.inl rfl) | exact Or.inr (Or.inr rfl)) (hd : (x == ("__debug__" : Str)) = false := by decide) (hcd : (x == ("__classdict__" : Str)) = false := by decide) :
    LJ X Z sp (.Subscript (.Name x p) ie pos) (mi.bi fun j => geti xss j) en := fun F ad σ H Q S hm => by
  refine ofE (pe_ix ix_list (pe_var (i := i) hN hv hd hcd) pe_w hpi) ?_
  obtain ⟨q0, L, h1, h2, W, hk⟩ := S.ll hs ho
  refine ⟨.ref q0, h1, ?_⟩
  refine hi F ad σ H _ S (hm.bi.imp fun jj g F1 H1 v n1 r1 => ?_)
  have r1 : v = .int jj := r1
  subst r1
  have hk1 : llOk Z.G F1 H1 t en (L o) xss q0 := hk.go n1.ff (fun q _ => n1.hh q) (n1.hh q0) (n1.non hk.2.2.2.1 (by rw [hk.1]; exact fun z => nomatch z))
  obtain ⟨ys, hat, g⟩ := g.geti
  obtain ⟨k1, k2, k3, k4, k5, k6⟩ := hk1
  obtain ⟨n, q, e1, e2, e3, ⟨ws, e4, ez, e5⟩, e6⟩ := ll_at k3 hat
  exact ⟨q0, (L o).map V.ref, jj, .ref q, rfl, rfl, SqL.of k1, e6, g F1 H1 q ws n1 (SqL.of e4) ez e5⟩
/-- they stay as they are from here on -/
theorem SOk.frzLL {K : Frag} {sp : Spec K} {en : Enc K α} {xss : List (List α)} (S : SOk Z F ad sp σ H) (ho : sp.ob[k]? = some (.lls t en xss)) : ∃ F', SOk Z F' ad ⟨sp.sl.map (thaw k (eL en) xss), sp.ob.set k .dead⟩ σ H := by
  obtain ⟨L, W⟩ := S.lf
  obtain ⟨p, hp, pko⟩ := W.ok k _ t (pkLL en) xss ho
  obtain ⟨k1, k2, k3, k4, k5, k6⟩ := pk_ll.mp pko
  let F' : Hp := fun a => if a = p ∨ a ∈ L k then H a else F a
  have ff : Same F F' := fun a o h => by
    show (if a = p ∨ a ∈ L k then H a else F a) = some o
    split
    · exact S.fh _ _ h
    · exact h
  have ffp : F' p = H p := if_pos (.inl rfl)
  have ffl : ∀ q ∈ L k, F' q = H q := fun q hq => if_pos (.inr hq)
  have ffo : ∀ a, a ≠ p → a ∉ L k → F' a = F a := fun a h1 h2 => if_neg (by rintro (z | z); exact h1 z; exact h2 z)
  have rep : Reps (eL en) F' ((L k).map V.ref) xss := by
    have key : ∀ {l : List Addr} {zs : List (List α)}, (∀ q ∈ l, F' q = H q) → Paired (fun q xs => ∃ vs, H q = some (.lst vs) ∧ vs.length ≤ sizeLine ∧ Reps en F vs xs) l zs → Reps (eL en) F' (l.map V.ref) zs := fun {l zs} hl hz => by
      induction hz with
      | nil => exact .nil
      | cons r _ ih =>
        obtain ⟨vs, z1, z2, z3⟩ := r
        exact .cons ⟨_, vs, rfl, by rw [hl _ (List.mem_cons_self ..)]; exact z1, z2, z3.mono ff⟩ (ih fun q hq => hl q (List.mem_cons_of_mem _ hq))
    exact key ffl k3
  have others : ∀ (i : Nat) (q : Addr), i ≠ k → ad[i]? = some q → q ≠ p ∧ q ∉ L k := fun i q hi hq => ⟨fun z => by
    subst z
    have l1 := getElem?_some_of hq
    have l2 := getElem?_some_of hp
    rw [List.getElem?_eq_getElem l1] at hq
    rw [List.getElem?_eq_getElem l2] at hp
    exact hi ((List.getElem_inj S.nd).mp ((Option.some.inj hq).trans (Option.some.inj hp).symm)), fun z => (W.di k q z).1 (List.mem_of_getElem? hq)⟩
  refine ⟨F', S.f0.trans ff, fun a o h => ?_, S.gh, fun a h => ?_, S.nd, S.st, by simp [S.len], fun i s h => ?_, by simp [S.olen], fun i o h => ?_, ⟨fun i => if i = k then [] else L i, fun i q hq => ?_, fun i q hq i' hq' => ?_, fun i => ?_, fun i α' t' e' xs' h => ?_⟩⟩
  · have h : (if a = p ∨ a ∈ L k then H a else F a) = some o := h
    split at h
    · exact h
    · exact S.fh _ _ h
  · by_cases z : a = p ∨ a ∈ L k
    · rcases z with z | z
      · subst z; exact .inr k5
      · exact .inr (W.di k a z).2.2.1
    · refine S.fg a ?_
      have : F' a = F a := if_neg z
      rw [this] at h
      exact h
  · have h : (sp.sl.map (thaw k (eL en) xss))[i]? = some s := h
    rw [List.getElem?_map] at h
    cases q : sp.sl[i]? with
    | none => rw [q] at h; cases h
    | some s0 =>
      rw [q] at h
      have e : thaw k (eL en) xss s0 = s := Option.some.inj h
      subst e
      obtain ⟨o, g1, g2⟩ := S.sl i s0 q
      refine ⟨o, g1, ?_⟩
      cases s0 with
      | any => trivial
      | val e a => exact slOk.mono (s := .val e a) ff g2
      | bor e a => exact slOk.mono (s := .bor e a) ff g2
      | own j =>
        show slOk Z.G F' ad (match Nat.beq j k with
          | true => .val (eL (eL en)) xss
          | false => .own j) o
        cases q : Nat.beq j k with
        | false => exact g2
        | true =>
          have e : j = k := Nat.eq_of_beq_eq_true q
          subst e
          obtain ⟨p', h1, h2⟩ := g2
          rw [hp] at h1
          have e : p = p' := Option.some.inj h1
          subst e
          exact ⟨.ref p, h2, p, _, rfl, by rw [ffp]; exact k1, by rw [List.length_map]; exact k2, rep⟩
  · have h : (sp.ob.set k .dead)[i]? = some o := h
    by_cases e : i = k
    · subst e
      rw [List.getElem?_set_self (getElem?_some_of ho)] at h
      cases h
      exact ⟨p, hp, trivial⟩
    · rw [List.getElem?_set_ne (Ne.symm e)] at h
      obtain ⟨p', g1, g2⟩ := S.ob i o h
      refine ⟨p', g1, ?_⟩
      obtain ⟨n1, n2⟩ := others i p' e g1
      cases o with
      | dead => trivial
      | pk _ _ _ => trivial
      | gen t' e' ys =>
        obtain ⟨us, z1, z2, z3, z4⟩ := g2
        exact ⟨us, z1, e'.mono ff z2, by rw [ffo p' n1 n2]; exact z3, z4⟩
      | lst t' e' ys =>
        obtain ⟨us, z1, zz, z2, z3, z4⟩ := g2
        exact ⟨us, z1, zz, z2.mono ff, by rw [ffo p' n1 n2]; exact z3, z4⟩
  · have hq : q ∈ (if i = k then [] else L i) := hq
    by_cases e : i = k
    · rw [if_pos e] at hq; cases hq
    · rw [if_neg e] at hq
      obtain ⟨a, b, c, d⟩ := W.di i q hq
      refine ⟨a, ?_, c, d⟩
      rw [ffo q (fun z => by subst z; exact a (List.mem_of_getElem? hp)) fun z => e (W.un k q z i hq)]
      exact b
  · have hq : q ∈ (if i = k then [] else L i) := hq
    have hq' : q ∈ (if i' = k then [] else L i') := hq'
    by_cases e : i = k
    · rw [if_pos e] at hq; cases hq
    · by_cases e' : i' = k
      · rw [if_pos e'] at hq'; cases hq'
      · rw [if_neg e] at hq
        rw [if_neg e'] at hq'
        exact W.un i q hq i' hq'
  · show (if i = k then [] else L i).Nodup
    split
    · exact List.nodup_nil
    · exact W.nd i
  · have h : (sp.ob.set k .dead)[i]? = some (.pk t' e' xs') := h
    by_cases e : i = k
    · subst e
      rw [List.getElem?_set_self (getElem?_some_of ho)] at h
      cases h
    · rw [List.getElem?_set_ne (Ne.symm e)] at h
      obtain ⟨p', h1, h2⟩ := W.ok i α' t' e' xs' h
      obtain ⟨n1, n2⟩ := others i p' e h1
      refine ⟨p', h1, ?_⟩
      show pkOk _ _ _ _ _ (if i = k then [] else L i) _ _
      rw [if_neg e]
      exact h2.go ff (fun _ _ _ z => z) (fun _ z => z) (by rw [ffo p' n1 n2]; exact h2.2.1)
theorem bj_frzLL {en : Enc X.K α} {xss : List (List α)} (ho : sp.ob[k]? = some (.lls t en xss)) (hr : BJ X Z Qr D ⟨sp.sl.map (thaw k (eL en) xss), sp.ob.set k .dead⟩ st' m) : BJ X Z Qr D sp st' m := fun F ad σ H S hm =>
  let ⟨F', S'⟩ := S.frzLL ho
  hr F' ad σ H S' hm
end
end Wk

set_option Elab.async false
set_option linter.all false
set_option maxRecDepth 100000
set_option maxHeartbeats 4000000
namespace Wk
open PySem PySem.Spec PyProof.Rows L2
@[irreducible] def fuel : Nat := 100000
theorem fuel_eq : fuel = 100000 := by unfold fuel; rfl
theorem ad1 {α : Type 1} {o : α} {ad : List Addr} (h : [o].length = ad.length) : ∃ p, ad = [p] := by
  match ad, h with
  | [p], _ => exact ⟨p, rfl⟩
theorem ad2 {α : Type 1} {o o' : α} {ad : List Addr} (h : [o, o'].length = ad.length) : ∃ p q, ad = [p, q] := by
  match ad, h with
  | [p, q], _ => exact ⟨p, q, rfl⟩
section
variable {X : Cx} {Z : Fz} {sp : Spec X.K} {a b c e : Expr} {es : List Expr} {pos p p2 fp : Pos} {α β γ δ ρ θ : Type} {k j : Nat} {x : Str} {F F' H H' : Hp} {ad : List Addr} {σ : Sg} {Qr : ρ → Prop} {D : Ends} {st : Stmt} {st' rest body : List Stmt} {m : Res ρ} {t : Option Addr} {tg it : Expr}
/-- e -/
theorem bj_ex {en : Enc X.K α} {me : Res α} {kk : α → Res ρ} (h : EJ X Z sp e me en) (hr : ∀ v, BJ X Z Qr D sp rest (kk v)) (hw : swapsWith e none pos.line X.env = pure false := by rfl) : BJ X Z Qr D sp (.Expr e pos :: rest) (me.bi kk) := fun F ad σ H S hm => by
  refine seq (ofS (ps_expr pe_w hw) ?_)
  exact h F ad σ H _ S (hm.bi.imp fun v q F' H' u n r => hr v F' ad σ H' (S.nx n) q)
end
end Wk

set_option Elab.async false
set_option linter.all false
set_option maxRecDepth 100000
set_option maxHeartbeats 4000000
namespace Wk
open PySem PySem.Spec PyProof.Rows L2
/-! ### list(reversed(x)) -/
section
variable {prog : Program} {w : World} {A : Around} {E : Value → Shared → Prop} {s : Shared}
abbrev RevI (its : Array Value) : Nat → Value → Prop := fun i v => its[its.size - 1 - i]? = some v
theorem wk_fill {R : Result → Shared → Prop} (hd : A.handled = none) {it l D : Addr} {its : Array Value} {c₀ : Nat} (hi : s.heap.IsRevIter it l ((its.size : Int) - 1)) (hx : s.heap.IsList l its) (li : l ≠ it) (Di : D ≠ it) (Dl : D ≠ l) (hz : its.size ≤ sizeLine) (hD : s.heap.get? D = some { cls := .type "list", data := .seq #[] c₀ })
    (hR : ∀ (h2 : Heap) (tk : Nat) (acc : Array Value) (c2 : Nat), (∀ b o, b ≠ D → b ≠ it → s.heap.get? b = some o → h2.get? b = some o) → h2.get? D = some { cls := .type "list", dict := none, data := .seq acc c2, slots := #[] } → ItemsOf (RevI its) acc its.size → R (.ok (.ret .none)) { s with heap := h2, toks := tk }) :
    wpAny (model prog w) A.in1 (Builtin.List.listExtendWith (.ref D) (.ref it) .none) (fun u z => match u with
      | .done f => R (.ok f) z
      | .again c => c.quiet = true ∧ codeAny (model prog w) A c R z) (fun e z => R (.error e) z) s := by
  have wk := (Walks.listRev (prog := prog) (w := w) (A := A.in1) hd it l li its).toS
  have hT : s.TypeIs (.ref it) "list_reverseiterator" := Heap.IsRevIter.typeIs hi
  have hDf : D ∉ [it, l] := fun m => by
    rcases List.mem_cons.mp m with e | m
    · exact Di e
    · exact Dl (List.mem_singleton.mp m)
  have h1 : Builtin.List.listSameRef (.ref D) (.ref it) = false := by simp [Builtin.List.listSameRef, Di]
  have e0 : ((its.size : Nat) : Int) - 1 - ((0 : Nat) : Int) = (its.size : Int) - 1 := by omega
  unfold Builtin.List.listExtendWith
  refine wpAny_bind (wpAny_typeOf hT ?_); rw [if_neg (by rw [h1]; decide)]
  refine wpAny_bind (wpAny_pyIter_revIter hi ?_); refine wpAny_bind (wpAny_holding ?_)
  unfold Builtin.List.listLengthHint
  refine wpAny_bind (wpAny_specialOf hT _root_.RT.nolen_lri ?_)
  show wpAny _ A.in1 (specialOf (Value.ref it) (Str.ofString "__length_hint__") >>= _) _ _ s
  refine wpAny_bind (wpAny_specialOf hT _root_.RT.hint_lri ?_)
  generalize hq : ("list_reverseiterator.__length_hint__" : String) = nm
  wp_delta
  rw [show splitId nm = some ("list_reverseiterator", "__length_hint__") from by rw [← hq]; decide +kernel]
  rw [← hq]
  refine wpAny_bind (wpAny_isInstance (b := true) hT (by rw [isSubtype_type]; kernel_rfl) ?_)
  refine wpAny_pure ?_; rw [if_neg (by decide)]
  refine wpAny_pure ⟨plainId_quiet F.plain_extend_loop _, codeAny_extend_loopS wk hz D hDf .none its.size 0 _ #[] c₀ rfl (Nat.zero_le _) ⟨Nat.zero_le _, by rw [e0]; exact hi, hx⟩ hD (ItemsOf.nil _) fun z acc c2 hm hz2 hacc => ?_⟩
  rw [Moved.eq_with hm]
  refine hR z.heap z.toks acc c2 (fun b o h2 h3 e => hm.heap b o (fun m => ?_) e) hz2 hacc
  rcases List.mem_cons.mp m with e2 | m
  · exact h2 e2
  · exact h3 (List.mem_singleton.mp m)
theorem wk_listRev {Q : Value → Shared → Prop} (hd : A.handled = none) {it l : Addr} {its : Array Value} (hi : s.heap.IsRevIter it l ((its.size : Int) - 1)) (hx : s.heap.IsList l its) (li : l ≠ it) (hz : its.size ≤ sizeLine)
    (hQ : ∀ (h2 : Heap) (tk : Nat) (acc : Array Value) (c2 : Nat), (∀ b o, b ≠ it → s.heap.get? b = some o → h2.get? b = some o) → h2.get? s.heap.objs.size = some { cls := .type "list", dict := none, data := .seq acc c2, slots := #[] } → ItemsOf (RevI its) acc its.size → Q (.ref s.heap.objs.size) { s with heap := h2, toks := tk }) :
    wpAny (model prog w) A (call (.type "list") [.ref it]) Q E s := by
  refine callType_codes (Q₁ := fun u z => u = .ref s.heap.objs.size ∧ z = { s with heap := s.heap.push { cls := .type "list", data := .seq #[] } }) F.called_list (F.typeCall_list_1 _) F.entry_list_init (code_list_new _ ⟨rfl, rfl⟩) fun u z hu => ?_
  obtain ⟨rfl, rfl⟩ := hu
  have hD : (s.heap.push { cls := .type "list", data := .seq #[] }).get? s.heap.objs.size = some { cls := .type "list", data := .seq #[] } := Heap.get?_push_size _ rfl
  have lti : it < s.heap.objs.size := let ⟨_, h, _⟩ := hi; Heap.lt_size h
  have ltl : l < s.heap.objs.size := let ⟨_, h, _⟩ := hx; Heap.lt_size h
  refine ⟨⟨_, hD, rfl⟩, F.args_list_init_2 _ _, ?_⟩
  generalize hDa : s.heap.objs.size = D at hD lti ltl
  have hp : ∀ b o, s.heap.get? b = some o → (s.heap.push { cls := .type "list", data := .seq #[] }).get? b = some o := fun b o e => Heap.get?_push_of_some _ e
  show wpAny _ _ (do let old ← Builtin.List.listItems (.ref D); Builtin.List.listUpdate (.ref D) (fun _ => #[]); letGo old.toList.reverse; Builtin.List.listExtendWith (.ref D) (.ref it) .none) _ _ _
  refine wpAny_bind ?_; unfold Builtin.List.listItems
  refine wpAny_bind (wpAny_seqItems hD rfl (wpAny_pure ?_))
  show wpAny _ _ (updateSeq D (fun _ => #[]) >>= fun _ => letGo (#[] : Array Value).toList.reverse >>= fun _ => Builtin.List.listExtendWith (.ref D) (.ref it) .none) _ _ _
  refine wpAny_bind (wpAny_updateSeq hD rfl ?_)
  have hD2 := Heap.get?_update_self (Obj.mapSeq (fun _ => (#[] : Array Value))) hD rfl
  have hk : ∀ b o, b ≠ D → s.heap.get? b = some o → ((s.heap.push { cls := .type "list", data := .seq #[] }).update D (Obj.mapSeq (fun _ => (#[] : Array Value)))).get? b = some o :=
    fun b o hb e => (Heap.get?_update_other _ _ (Ne.symm hb)).trans (hp b o e)
  refine wpAny_bind (wpAny_letGo ?_)
  refine wk_fill (A := A.in1) hd (hi.at fun o e => hk it o (Nat.ne_of_lt lti) e) (?_ : Heap.IsList _ l its) li (Nat.ne_of_gt lti) (Nat.ne_of_gt ltl) hz hD2 fun h2 tk acc c2 k2 g2 hacc => ?_
  · obtain ⟨o, ho, r⟩ := hx
    exact ⟨o, hk l o (Nat.ne_of_lt ltl) ho, r⟩
  · subst hDa
    exact ⟨rfl, hQ h2 tk acc c2 (fun b o hb e => k2 b o (Nat.ne_of_lt (Heap.lt_size e)) hb (hk b o (Nat.ne_of_lt (Heap.lt_size e)) e)) g2 hacc⟩
end
section
variable {X : Cx} {Z : Fz} {sp : Spec X.K} {a : Expr} {α : Type} {p p2 pos pos2 : Pos} {e : Expr}
/-- a new list, as another one backwards -/
def tRevL (K : PySem.W.Frag) (te : TE) : TE := fun σ H Q => te σ H fun v H1 => ∃ (x : Addr) (xs : List V), v = .ref x ∧ SqL K H1 x xs ∧ ∀ q, H1 q = none → Q (.ref q) (upd H1 q (.lst xs.reverse))
theorem pe_listRev {te : TE} (hc : X.calm = true) (g1 : Gl X "list") (m1 : X.mg "list" = none) (g2 : Gl X "reversed") (m2 : X.mg "reversed" = none) (he : PE X e te) (s1 : starEach [e] X.env = (false, eval e X.env) :: starEach [] X.env)
    (s2 : starEach [.Call (.Name "reversed" p2) [e] [] pos2] X.env = (false, eval (.Call (.Name "reversed" p2) [e] [] pos2) X.env) :: starEach [] X.env) : PE X (.Call (.Name "list" p) [.Call (.Name "reversed" p2) [e] [] pos2] [] pos) (tRevL X.K te) := by
  refine ⟨fun pins s σ H Q I h => ?_⟩
  refine Call_ (ld_blt I g1 m1 PyProof.Rows.boot_list (PyProof.Rows.callWith_type1 (args_cons (Call_ (ld_blt I g2 m2 PyProof.Rows.boot_reversed (PyProof.Rows.callWith_type1 (args_cons (thn (he.run pins s σ H _ I h) fun u z ⟨v, H1, I1, r1, q1⟩ => args_nil ?_) s1) s1 rfl))) s2) s2 rfl))
  obtain ⟨x, xs, ev, hq, q⟩ := q1
  subst ev
  have hu : u = Value.ref x := r1
  subst hu
  obtain ⟨its, rv, pl, hz⟩ := I1.list hq
  refine call_reversed_list pl.isList (args_nil ?_)
  have hk : ∀ b o, z.heap.get? b = some o → (z.heap.push (revObj x ((its.toArray.size : Int) - 1))).get? b = some o := fun b o e => Heap.get?_push_of_some _ e
  have hl := pl.isList
  have ltx : x < z.heap.objs.size := let ⟨_, h, _⟩ := hl; Heap.lt_size h
  have hzz : its.toArray.size ≤ sizeLine := by rw [List.size_toArray, ← rv.length]; exact hz
  have hsz : (z.heap.push (revObj x ((its.toArray.size : Int) - 1))).objs.size = z.heap.objs.size + 1 := Array.size_push ..
  refine wk_listRev (s := { z with heap := z.heap.push (revObj x ((its.toArray.size : Int) - 1)) }) (I1.ok.hd hc) ⟨_, Heap.get?_push_size _ rfl, rfl, rfl⟩ (hl.push _) (Nat.ne_of_lt ltx) hzz fun h2 tk acc c2 k2 gD hacc => ?_
  have le : z.heap.objs.size ≤ (z.heap.push (revObj x ((its.toArray.size : Int) - 1))).objs.size := by rw [hsz]; exact Nat.le_succ _
  have hacc2 : Vals xs.reverse acc.toList := _root_.RT.vals_rev rv hacc
  refine ⟨.ref _, upd H1 _ (.lst xs.reverse), I1.laid (t' := tk) (fun b o e => k2 b o (Nat.ne_of_lt (Heap.lt_size e)) (hk b o e)) le (show ObjOk X.prog X.w _ h2 _ (.lst xs.reverse) from ⟨by rw [List.length_reverse]; exact hz, acc.toList, c2, hacc2, by rw [Array.toArray_toList]; exact gD⟩), rfl, q _ (I1.hok.fresh le)⟩
theorem fj_listRev {en : Enc X.K α} {m : Res (List α)} (h1 : X.mg "list" = none) (h2 : X.mg "reversed" = none) (h : LJ X Z sp a m en) (hc : X.calm = true := by rfl) (g1 : Gl X "list" := by rfl) (g2 : Gl X "reversed" := by rfl) (hn : nst a = true := by rfl) :
    FJ X Z sp (.Call (.Name "list" p) [.Call (.Name "reversed" p2) [a] [] pos2] [] pos) (m.bi fun xs => .ok xs.reverse) en := fun F ad σ H Q S hq => by
  refine ofE (pe_listRev hc g1 h1 g2 h2 pe_w (star_cons hn) (star_cons rfl)) ?_
  refine h F ad σ H _ S (hq.bi.imp fun xs q F1 H1 y vs n1 l1 hz1 r1 => ?_)
  refine ⟨y, vs, rfl, l1, fun l hl => ?_⟩
  obtain ⟨f1, f2⟩ := n1.free hl
  exact q F1 _ l vs.reverse (n1.new hl) f1 f2 upd_same (by rw [List.length_reverse]; exact hz1) r1.reverse
theorem fj_listRev_p {en : Enc X.K α} {xs : List α} (h1 : X.mg "list" = none) (h2 : X.mg "reversed" = none) (h : LJ X Z sp a (.ok xs) en) (hc : X.calm = true := by rfl) (g1 : Gl X "list" := by rfl) (g2 : Gl X "reversed" := by rfl) (hn : nst a = true := by rfl) :
    FJ X Z sp (.Call (.Name "list" p) [.Call (.Name "reversed" p2) [a] [] pos2] [] pos) (.ok xs.reverse) en := fj_listRev h1 h2 h hc g1 g2 hn
/-- how many values a row has -/
def VsN {K : Frag} {γ : Type} (r : VsE K γ) (n : Nat) : Prop := ∀ F vs g, r.rep F vs g → vs.length = n
theorem vsn1 {K : Frag} {en : Enc K α} : VsN (vs1 en) 1 := fun F vs g ⟨v, h, _⟩ => by rw [h]; rfl
theorem vsnC {K : Frag} {γ : Type} {en : Enc K α} {r : VsE K γ} {n : Nat} (h : VsN r n) : VsN (vsC en r) (n + 1) := fun F vs g ⟨v, ws, e, _, h2⟩ => by rw [e, List.length_cons, h F ws g.2 h2]
theorem ej_lenT {γ : Type} {r : VsE X.K γ} {n : Nat} {z : Int} {m : Res γ} (hv : VsN r n) (hz : z = n) (hm : X.mg "len" = none) (h : EJ X Z sp a m (eT r)) (hg : Gl X "len" := by rfl) (hn : nst a = true := by rfl) : EJ X Z sp (.Call (.Name "len" p) [a] [] pos) (m.bi fun _ => .ok z) eI := fun F ad σ H Q S hq => by
  refine ofE (callB1 call_len_seq hg hm boot_len hn) ?_
  refine h F ad σ H _ S (hq.bi.imp fun g q F1 H1 v n1 r1 => ?_)
  obtain ⟨y, vs, rfl, h1, r1⟩ := r1
  refine ⟨y, vs, rfl, .inr (SqT.of (n1.fh _ _ h1)), ?_⟩
  rw [hv _ _ _ r1, ← hz]
  exact q F1 H1 _ n1 rfl
theorem ej_lenT_p {γ : Type} {r : VsE X.K γ} {n : Nat} {z : Int} {g : γ} (hv : VsN r n) (hz : z = n) (hm : X.mg "len" = none) (h : EJ X Z sp a (.ok g) (eT r)) (hg : Gl X "len" := by rfl) (hn : nst a = true := by rfl) : EJ X Z sp (.Call (.Name "len" p) [a] [] pos) (.ok z) eI := ej_lenT hv hz hm h hg hn
theorem ej_tcut3 {β γ δ : Type} {e1 : Enc X.K α} {e2 : Enc X.K β} {e3 : Enc X.K γ} {e4 : Enc X.K δ} {m : Res (α × β × γ × δ)} {j : Nat} {p3 : Pos} (h : EJ X Z sp a m (eT (vsC e1 (vsC e2 (vsC e3 (vs1 e4)))))) :
    EJ X Z sp (.Subscript a (.Slice none (some (.Constant (.int 3) j p3)) none p2) pos) (m.bi fun g => .ok (g.1, g.2.1, g.2.2.1)) (eT (vsC e1 (vsC e2 (vs1 e3)))) := fun F ad σ H Q S hq => by
  obtain ⟨tl, pl, hl⟩ : OJ X Z sp none (.ok none) := oj_none
  obtain ⟨th, ph, hh⟩ : OJ X Z sp (some (.Constant (.int 3) j p3)) (.ok (some 3)) := oj_some_p ej_int
  refine ofE (pe_slice sl_tup pe_w pl ph) ?_
  refine h F ad σ H _ S (hq.bi.imp fun g q F1 H1 v n1 r1 => ?_)
  obtain ⟨y, vs, rfl, h1, v1, w1, rfl, a1, v2, w2, rfl, a2, v3, w3, rfl, a3, v4, rfl, a4⟩ := r1
  refine hl F1 ad σ H1 _ (S.nx n1) fun F2 H2 n2 => ?_
  refine hh F2 ad σ H2 _ (S.nx (n1.trans n2)) fun F3 H3 n3 => ?_
  have n := (n1.trans n2).trans n3
  have f := (n2.trans n3).ff
  refine ⟨y, _, rfl, SqT.of ((n2.trans n3).hh _ _ (n1.fh _ _ h1)), (show ¬ (HT.sIx 4 0 none = 0 ∧ HT.sIx 4 4 (some 3) = 4) by decide), fun l hl => ?_⟩
  obtain ⟨g1, g2⟩ := n.free hl
  have s : Same F1 (upd F3 l (.tup [v1, v2, v3])) := f.trans (same_upd g2)
  exact q (upd F3 l (.tup [v1, v2, v3])) _ (.ref l) ((n.new hl).fix g1 g2 upd_same) ⟨l, _, rfl, upd_same, v1, _, rfl, e1.mono s a1, v2, _, rfl, e2.mono s a2, v3, rfl, e3.mono s a3⟩
theorem ej_tcut3_p {β γ δ : Type} {e1 : Enc X.K α} {e2 : Enc X.K β} {e3 : Enc X.K γ} {e4 : Enc X.K δ} {g : α × β × γ × δ} {j : Nat} {p3 : Pos} (h : EJ X Z sp a (.ok g) (eT (vsC e1 (vsC e2 (vsC e3 (vs1 e4)))))) :
    EJ X Z sp (.Subscript a (.Slice none (some (.Constant (.int 3) j p3)) none p2) pos) (.ok (g.1, g.2.1, g.2.2.1)) (eT (vsC e1 (vsC e2 (vs1 e3)))) := ej_tcut3 h
/-! ### is, of truths -/
theorem cj_isB {b : Expr} {ma mb : Res Bool} (ha : EJ X Z sp a ma eB) (hb : EJ X Z sp b mb eB) : CJ X Z sp .Is a b (ma.bi fun x => mb.bi fun y => .ok (decide (x = y))) := ⟨_, op_isBl, fun F ad σ H Q S hm => by
  refine ha F ad σ H _ S (hm.bi.imp fun x q F1 H1 v n1 r1 => ?_)
  refine hb F1 ad σ H1 _ (S.nx n1) (q.bi.imp fun y q F2 H2 u n2 r2 => ⟨x, y, r1, r2, q F2 H2 (n1.trans n2)⟩)⟩
theorem cj_notB {b : Expr} {ma mb : Res Bool} (ha : EJ X Z sp a ma eB) (hb : EJ X Z sp b mb eB) : CJ X Z sp .IsNot a b (ma.bi fun x => mb.bi fun y => .ok (!decide (x = y))) := ⟨_, op_notBl, fun F ad σ H Q S hm => by
  refine ha F ad σ H _ S (hm.bi.imp fun x q F1 H1 v n1 r1 => ?_)
  refine hb F1 ad σ H1 _ (S.nx n1) (q.bi.imp fun y q F2 H2 u n2 r2 => ⟨x, y, r1, r2, q F2 H2 (n1.trans n2)⟩)⟩
theorem cj_isB_p {b : Expr} {x y : Bool} (ha : EJ X Z sp a (.ok x) eB) (hb : EJ X Z sp b (.ok y) eB) : CJ X Z sp .Is a b (.ok (decide (x = y))) := cj_isB ha hb
theorem cj_notB_p {b : Expr} {x y : Bool} (ha : EJ X Z sp a (.ok x) eB) (hb : EJ X Z sp b (.ok y) eB) : CJ X Z sp .IsNot a b (.ok (!decide (x = y))) := cj_notB ha hb
end
end Wk

set_option Elab.async false
set_option linter.all false
set_option maxRecDepth 100000
set_option maxHeartbeats 4000000
namespace Wk
open PySem PySem.Spec PyProof.Rows L2
/-! ### set(x) of a list of whole numbers -/
section
variable {prog : Program} {w : World} {A : Around} {E : Value → Shared → Prop} {s : Shared}
abbrev so0 (w : World) : Obj := { cls := .type "set", dict := none, data := .set #[] 0 (.fresh 0 0 (!w.params.followText "set-order")) }
abbrev lit0 (l : Addr) : Obj := { cls := .type "list_iterator", data := .fields #[.ref l, .int 0 0] }
theorem wk_setList {l : Addr} {its : Array Value} (ns : List Int) {Q : Value → Shared → Prop} (hd : A.handled = none) (hx : s.heap.IsList l its) (hi : IntsAre its.toList ns) (hb : ns.length + 1 < scanBound)
    (hQ : ∀ (h2 : Heap) (tk n : Nat), SetR w h2 s.heap.objs.size (fun j => decide (j ∈ ns)) n → n ≤ ns.length → (∀ b o, s.heap.get? b = some o → h2.get? b = some o) → Q (.ref s.heap.objs.size) { s with heap := h2, toks := tk }) : wpAny (model prog w) A (call (.type "set") [.ref l]) Q E s := by
  have hz : its.size = ns.length := (Array.length_toList (xs := its)) ▸ IntsAre.length hi
  obtain ⟨k0, t0, hmro⟩ := F.called_set.mro
  have hmade := F.called_set.made; have hsub := F.called_set.sub
  refine wpAny_call (codeAny_of_tree ?_)
  show wpAny _ _ (callAny (.type "set") _) _ _ s
  refine wpAny_pure ⟨Code.quiet_builtin _ (by decide +kernel), codeAny_builtin F.entry_type_call ?_⟩; rw [Around.under_plain (weight_type_call_type "set" [.ref l] []) rfl]
  have n1 := F.called_set.notType; have n2 := F.called_set.canCreate
  have n3 := F.typeCall_set_1 (.ref l)
  repeat (any_goals (first | assumption | wp_step))
  refine codeAny_mono (code_set_led1 (.ref l) (E := E) (Q₁ := fun u z => u = .ref s.heap.objs.size ∧ z = { s with heap := s.heap.push (so0 w) }) ⟨rfl, rfl⟩) fun r z hr => ?_
  match r, hr with
  | .error e, hr => exact hr
  | .ok (.ret u), hr =>
    obtain ⟨rfl, rfl⟩ := hr
    have gD : (s.heap.push (so0 w)).get? s.heap.objs.size = some (so0 w) := Heap.get?_push_size _ rfl
    have hT : Shared.TypeIs { s with heap := s.heap.push (so0 w) } (.ref s.heap.objs.size) "set" := ⟨_, gD, rfl⟩
    have n4 := F.called_set.init.lookup; have n5 := F.called_set.init.bind (.ref s.heap.objs.size)
    repeat (any_goals (first | assumption | wp_step))
    refine codeAny_mono (codeAny_call_builtin (R := wants (fun u z => u = .none ∧ ∃ h2 tk n, z = { s with heap := h2, toks := tk } ∧ SetR w h2 s.heap.objs.size (fun j => decide (j ∈ ns)) n ∧ n ≤ ns.length ∧ ∀ b o, s.heap.get? b = some o → h2.get? b = some o) E) F.called_set.init.plain F.entry_set_init (check_set_init_1 hT ?_)) fun r2 z2 hr2 => ?_
    · obtain ⟨⟨oc, od, ot, os⟩, hol, hcl, nl, hdl⟩ := hx
      simp only at hcl hdl
      subst hcl; subst hdl
      have hol2 : (s.heap.push (so0 w)).get? l = some { cls := .type "list", dict := od, data := .seq its nl, slots := os } := Heap.get?_push_of_some _ hol
      have m1 := F.sub_list_set; have m2 := F.sub_list_frozenset
      have m3 : (Value.type "list" == Value.type "dict") = false := by decide
      have hl1 : (s.heap.push (so0 w)).IsList l its := ⟨_, hol2, rfl, nl, rfl⟩
      unfold Builtin.«set.__init__» noKeywords Builtin.Frozenset.updateFrom
      generalize hPI : pyIter = PI
      wp_walk
      subst hPI
      refine wpAny_pyIter_list hl1 ?_; refine wpAny_bind (wpAny_runValue ?_)
      have ll : l < s.heap.objs.size := Heap.lt_size hol
      have hd3 : A.in1.in1.in1.handled = none := by simp [hd]
      have zz : (s.heap.push (so0 w)).objs.size = s.heap.objs.size + 1 := Heap.size_push ..
      have hlI : l ≠ (s.heap.push (so0 w)).objs.size := by rw [zz]; exact Nat.ne_of_lt (Nat.lt_succ_of_lt ll)
      have hDf : s.heap.objs.size ∉ [(s.heap.push (so0 w)).objs.size, l] := fun m => by
        rcases List.mem_cons.mp m with e | m
        · rw [zz] at e; exact Nat.ne_of_lt (Nat.lt_succ_self _) e
        · exact Nat.ne_of_gt ll (List.mem_singleton.mp m)
      have hval : ∀ (i : Nat) (v : Value), its[i]? = some v → ∃ k t, ns[i]? = some k ∧ v = .int k t := fun i v hv => by
        have hi2 : i < ns.length := by rw [← hz]; exact (Array.getElem?_eq_some_iff.mp hv).1
        obtain ⟨t, e⟩ := IntsAre.int_at hi i v (by rw [Array.getElem?_toList]; exact hv)
        rw [List.getD_eq_getElem?_getD, List.getElem?_eq_getElem hi2] at e
        exact ⟨ns[i], t, List.getElem?_eq_getElem hi2, e⟩
      refine set_update_ints ((Walks.list hd3 _ l hlI its).toS) s.heap.objs.size hDf ns hz hb hval (its.size - 0) 0 _ (by omega) (Nat.zero_le _) ⟨⟨_, Heap.get?_push_size _ rfl, rfl, rfl⟩, (hl1.push _)⟩ ?_ ?_
      · have g2 : ((s.heap.push (so0 w)).push (lit0 l)).get? s.heap.objs.size = some (so0 w) := Heap.get?_push_of_some _ gD
        exact ⟨0, Nat.le_refl 0, setR_new_at g2⟩
      · rintro ⟨h2, g2, d2, tk, os2⟩ n hm hn hR
        have eg : g2 = s.gens := hm.gens
        have ed : d2 = s.drawn := hm.drawn
        have eo : os2 = s.os := hm.os
        subst eg ed eo
        show wpAny _ _ _ _ _ _
        refine wpAny_pure ?_
        show wpAny _ _ (ret Value.none) _ _ _
        rw [hz] at hn
        refine wpAny_pure ⟨rfl, h2, tk, n, rfl, hR, hn, fun b o e => hm.heap b o (fun m => ?_) (Heap.get?_push_of_some _ (Heap.get?_push_of_some _ e))⟩
        have lb := Heap.lt_size e
        rcases List.mem_cons.mp m with e2 | m
        · exact Nat.ne_of_lt lb e2
        · have e3 := List.mem_singleton.mp m
          rw [zz] at e3
          exact Nat.ne_of_lt (Nat.lt_succ_of_lt lb) e3
    · match r2, hr2 with
      | .error e, hr2 => exact hr2
      | .ok (.ret u), hr2 =>
        obtain ⟨rfl, h2, tk, n, rfl, hR, hn, hk⟩ := hr2
        repeat (any_goals (first | assumption | wp_step))
        exact hQ _ _ _ hR hn hk
end
/-! ### sorted(set(x)) -/
section
variable {X : Cx} {Z : Fz} {sp : Spec X.K} {a : Expr} {p p2 pos pos2 : Pos} {e : Expr}
/-- the numbers of a list once each, rising -/
def insS (x : Int) : List Int → List Int
  | [] => [x]
  | y :: l => if x < y then x :: y :: l else if x = y then y :: l else y :: insS x l
def setS (xs : List Int) : List Int := xs.foldr insS []
theorem mem_insS {x k : Int} : ∀ {l : List Int}, k ∈ insS x l ↔ k = x ∨ k ∈ l
  | [] => by simp [insS]
  | y :: l => by
    unfold insS
    split
    · simp
    · split
      · rename_i h
        rw [h]
        simp
      · rw [List.mem_cons, mem_insS (l := l), List.mem_cons]
        constructor
        · rintro (h | h | h)
          · exact .inr (.inl h)
          · exact .inl h
          · exact .inr (.inr h)
        · rintro (h | h | h)
          · exact .inr (.inl h)
          · exact .inl h
          · exact .inr (.inr h)
theorem insS_rise {x : Int} : ∀ {l : List Int}, l.Pairwise (· < ·) → (insS x l).Pairwise (· < ·)
  | [], _ => List.pairwise_singleton _ _
  | y :: l, h => by
    obtain ⟨h1, h2⟩ := List.pairwise_cons.mp h
    unfold insS
    split
    · refine List.pairwise_cons.mpr ⟨fun k hk => ?_, h⟩
      rcases List.mem_cons.mp hk with e | e
      · omega
      · have := h1 k e
        omega
    · split
      · exact h
      · refine List.pairwise_cons.mpr ⟨fun k hk => ?_, insS_rise h2⟩
        rcases mem_insS.mp hk with e | e
        · omega
        · exact h1 k e
theorem mem_setS {k : Int} : ∀ {xs : List Int}, k ∈ setS xs ↔ k ∈ xs
  | [] => Iff.rfl
  | x :: xs => by
    show k ∈ insS x (setS xs) ↔ _
    rw [mem_insS, mem_setS (xs := xs), List.mem_cons]
theorem setS_rise : ∀ xs : List Int, (setS xs).Pairwise (· < ·)
  | [] => List.Pairwise.nil
  | x :: xs => insS_rise (setS_rise xs)
theorem rise_uniq : ∀ {l m : List Int}, l.Pairwise (· < ·) → m.Pairwise (· < ·) → (∀ k : Int, k ∈ l ↔ k ∈ m) → l = m
  | [], [], _, _, _ => rfl
  | [], y :: m, _, _, h => absurd ((h y).mpr (List.mem_cons_self ..)) (by simp)
  | x :: l, [], _, _, h => absurd ((h x).mp (List.mem_cons_self ..)) (by simp)
  | x :: l, y :: m, hl, hm, h => by
    obtain ⟨l1, l2⟩ := List.pairwise_cons.mp hl
    obtain ⟨m1, m2⟩ := List.pairwise_cons.mp hm
    have e : x = y := by
      rcases List.mem_cons.mp ((h x).mp (List.mem_cons_self ..)) with e | e
      · exact e
      · rcases List.mem_cons.mp ((h y).mpr (List.mem_cons_self ..)) with e2 | e2
        · exact e2.symm
        · have := m1 x e
          have := l1 y e2
          omega
    subst e
    rw [rise_uniq l2 m2 fun k => ⟨fun hk => ?_, fun hk => ?_⟩]
    · rcases List.mem_cons.mp ((h k).mp (List.mem_cons_of_mem _ hk)) with e | e
      · have := l1 k hk
        omega
      · exact e
    · rcases List.mem_cons.mp ((h k).mpr (List.mem_cons_of_mem _ hk)) with e | e
      · have := m1 k hk
        omega
      · exact e
def setSortM (xs : List Int) : Res (List Int) := gd (xs.length < 63) (setS xs)
/-- a new list: the numbers once each, rising -/
def tSetSort (K : PySem.W.Frag) (te : TE) : TE := fun σ H Q => te σ H fun v H1 => ∃ (x : Addr) (ns : List Int), v = .ref x ∧ SqL K H1 x (ns.map V.int) ∧ ns.length < 63 ∧ ∀ (ms : List Int) q, ms.Pairwise (· < ·) → (∀ k : Int, k ∈ ms ↔ k ∈ ns) → H1 q = none → Q (.ref q) (upd H1 q (.lst (ms.map V.int)))
theorem pe_setSort {te : TE} (hc : X.calm = true) (g1 : Gl X "sorted") (m1 : X.mg "sorted" = none) (g2 : Gl X "set") (m2 : X.mg "set" = none) (he : PE X e te) (s1 : starEach [e] X.env = (false, eval e X.env) :: starEach [] X.env)
    (s2 : starEach [.Call (.Name "set" p2) [e] [] pos2] X.env = (false, eval (.Call (.Name "set" p2) [e] [] pos2) X.env) :: starEach [] X.env) : PE X (.Call (.Name "sorted" p) [.Call (.Name "set" p2) [e] [] pos2] [] pos) (tSetSort X.K te) := by
  refine ⟨fun pins s σ H Q I h => ?_⟩
  refine Call_ (ld_blt I g1 m1 boot_sorted ?_)
  refine PyProof.Rows.callWith_builtin1 (PyProof.Rows.args_cons ?_ s2) s2 rfl
  refine Call_ (ld_blt I g2 m2 boot_set ?_)
  refine PyProof.Rows.callWith_type1 (PyProof.Rows.args_cons (thn (he.run pins s σ H _ I h) fun u z ⟨v, H1, I1, r1, q1⟩ => PyProof.Rows.args_nil ?_) s1) s1 rfl
  obtain ⟨x, ns, ev, hq, hl, q⟩ := q1
  subst ev
  have hu : u = Value.ref x := r1
  subst hu
  obtain ⟨its, rv, pl, hz⟩ := I1.list hq
  refine wk_setList (s := z) ns (I1.ok.hd hc) pl.isList (by simpa using RZ.intsAre_vals rv) (by unfold scanBound; omega) fun h2 tk n hR hn hk => ?_
  refine PyProof.Rows.args_nil ?_
  refine sorted_set (s := { z with heap := h2, toks := tk }) hR (I1.ok.hd hc) (by omega) fun z2 q2 out c ms k2 gg oo hp hg hi hs hm hlen => ?_
  have hlen2 : (ms.map V.int).length ≤ sizeLine := by rw [List.length_map, hlen, sizeLine_eq]; omega
  have kall : ∀ b o, z.heap.get? b = some o → z2.heap.get? b = some o := fun b o e => k2 b o (hk b o e)
  have hpz : z.heap.objs.size ≤ q2 := by
    refine Nat.le_trans ?_ hp
    exact Nat.le_of_lt_succ (Nat.lt_succ_of_lt hR.lt)
  have hn2 : H1 q2 = none := I1.hok.fresh hpz
  have J : Inv X pins σ (upd H1 q2 (.lst (ms.map V.int))) { z with heap := z2.heap, gens := z2.gens, drawn := z2.drawn, toks := z2.toks } :=
    I1.call (ch := []) (Un.laid kall hpz hn2) (I1.hok.laid kall hpz ⟨hlen2, out.toList, c, vals_of_ints hi, hg⟩) (by rw [gg]; exact I1.bare) (fun _ m => nomatch m)
  have e2 : z2 = { z with heap := z2.heap, gens := z2.gens, drawn := z2.drawn, toks := z2.toks } := by
    obtain ⟨_, _, _, _, _⟩ := z2
    obtain ⟨_, _, _, _, _⟩ := z
    cases oo
    rfl
  rw [e2]
  exact ⟨.ref q2, _, J, rfl, q ms q2 hs (fun k => (hm k).trans decide_eq_true_iff) hn2⟩
theorem fj_sortSet {m : Res (List Int)} (h1 : X.mg "sorted" = none) (h2 : X.mg "set" = none) (h : LJ X Z sp a m eI) (hc : X.calm = true := by rfl) (g1 : Gl X "sorted" := by rfl) (g2 : Gl X "set" := by rfl) (hn : nst a = true := by rfl) :
    FJ X Z sp (.Call (.Name "sorted" p) [.Call (.Name "set" p2) [a] [] pos2] [] pos) (m.bi setSortM) eI := fun F ad σ H Q S hq => by
  refine ofE (pe_setSort hc g1 h1 g2 h2 pe_w (star_cons hn) (star_cons rfl)) ?_
  refine h F ad σ H _ S (hq.bi.imp fun xs q F1 H1 y vs n1 l1 hz1 r1 => ?_)
  obtain ⟨c, q⟩ := q.gd
  have ev := r1.int
  subst ev
  refine ⟨y, xs, rfl, l1, c, fun ms l hs hm hl => ?_⟩
  have es : ms = setS xs := rise_uniq hs (setS_rise xs) fun k => (hm k).trans mem_setS.symm
  subst es
  obtain ⟨f1, f2⟩ := n1.free hl
  refine q F1 _ l _ (n1.new hl) f1 f2 upd_same ?_ (Reps.ofInt _)
  have hle : ∀ ys : List Int, (setS ys).length ≤ ys.length := fun ys => by
    have hi : ∀ (x : Int) (l : List Int), (insS x l).length ≤ l.length + 1 := fun x l => by
      induction l with
      | nil => exact Nat.le_refl _
      | cons y l ih =>
        unfold insS
        split
        · exact Nat.le_refl _
        · split
          · exact Nat.le_succ _
          · exact Nat.succ_le_succ ih
    induction ys with
    | nil => exact Nat.le_refl _
    | cons y ys ih => exact Nat.le_trans (hi y _) (Nat.succ_le_succ ih)
  have := hle xs
  rw [List.length_map, sizeLine_eq]
  omega
theorem fj_sortSet_p {xs : List Int} (h1 : X.mg "sorted" = none) (h2 : X.mg "set" = none) (h : LJ X Z sp a (.ok xs) eI) (hc : X.calm = true := by rfl) (g1 : Gl X "sorted" := by rfl) (g2 : Gl X "set" := by rfl) (hn : nst a = true := by rfl) :
    FJ X Z sp (.Call (.Name "sorted" p) [.Call (.Name "set" p2) [a] [] pos2] [] pos) (setSortM xs) eI := fj_sortSet h1 h2 h hc g1 g2 hn
end
end Wk

set_option Elab.async false
set_option linter.all false
set_option maxRecDepth 100000
set_option maxHeartbeats 4000000
namespace Wk
open PySem PySem.Spec PyProof.Rows L2
/-! ### comprehensions over a list of ours -/
section
variable {X : Cx} {Z : Fz} {sp : Spec X.K} {a b c e : Expr} {es : List Expr} {pos p p2 fp : Pos} {α β γ ρ : Type} {k j : Nat} {x : Str} {F F' H H' : Hp} {ad : List Addr} {σ : Sg}
variable {elt tg iter : Expr} {scope : Scope} {own : List (Str × Nat)}
/-- what is walked while nothing that there is changes -/
def SJO (X : Cx) (Z : Fz) (sp : Spec X.K) (tg it : Expr) (m : Res (List β)) (en : Enc X.K β) : Prop :=
  ∀ (F : Hp) (ad : List Addr) (σ : Sg) (H : Hp) (R : It → Hp → Prop), SOk Z F ad sp σ H → mwp m (fun ys => ∀ F1 H1 J, Nx F H F1 H1 → ys.length ≤ sizeLine → ItR X.K H1 F1 en ys J → R J H1) Z.Er → wI X tg it σ H R
theorem sjo_list {it : Expr} {en : Enc X.K α} {m : Res (List α)} (h : LJ X Z sp it m en) : SJO X Z sp tg it m en := fun F ad σ H R S hm => by
  refine ofI (pi_list pe_w) ?_
  refine h F ad σ H _ S (hm.imp fun xs q F1 H1 p vs n1 h1 hz r1 => ?_)
  refine ⟨p, rfl, ⟨vs, h1⟩, q F1 H1 _ n1 (by rw [← r1.length]; exact hz) fun i F' H' s f g => ?_⟩
  have hq := sqL_mono g h1
  refine ⟨fun y hy => ?_, fun hl => ⟨vs, hq, by rw [r1.length]; exact hl⟩⟩
  obtain ⟨v, k1, k2⟩ := r1.get hy
  refine ⟨⟨vs, v, hq, k1⟩, fun x H'' yl => ?_⟩
  obtain ⟨rfl, k3⟩ := yl
  have e : v = x := Option.some.inj (k1.symm.trans (k3 vs hq))
  subst e
  exact ⟨F', ⟨Same.refl _, Same.refl _, f, fun _ h => .inl h⟩, en.mono s k2⟩
theorem lc_okO {en : Enc X.K β} {en' : Enc X.K α} {m : Res (List β)} {is : List Nat} {bd : β → List (Sl X.K) → List (Sl X.K)} {cm : β → Res Bool} {me : β → Res α} {tt : TT} (hs : SJO X Z sp tg iter m en)
    (hg : ∀ s H C cl fp, GJ (blkX X scope s H C cl fp) tg en is bd) (hi : ∀ i ∈ is, i ∈ own.map (·.2))
    (hc : ∀ y F ad σ H (Q : Bool → Hp → Prop), SOk Z.mute F ad (blkS sp own bd y) σ H → mwp (cm y) (fun b => ∀ F' H', Nx F H F' H' → Q b H') (fun _ => False) → tt σ H Q)
    (he : ∀ y s H C cl fp, EJ (blkX X scope s H C cl fp) Z.mute (blkS sp own bd y) elt (me y) en')
    (F : Hp) (ad : List Addr) (σ : Sg) (H : Hp) (Q : VK) (S : SOk Z F ad sp σ H) (hm : mwp (m.bi fun ys => compM ys cm me) (fun xs => ∀ F' H' p vs, Nx F H F' H' → H p = none → F' p = none → H' p = some (.lst vs) → vs.length ≤ sizeLine → Reps en' F' vs xs → Q (.ref p) H') Z.Er) :
    tLc (wI X tg iter) (gAll X scope tg) tt (eAll X scope elt) (own.map (·.2)) σ H Q := by
  refine hs F ad σ H _ S (hm.bi.imp fun ys q F1 H1 J n1 hz itr => fun D hD => ?_)
  obtain ⟨g1, g2⟩ := n1.free hD
  refine ⟨fun i m Hc => m = ys.length - i ∧ i ≤ ys.length ∧ ∃ F' acc zs, F' D = none ∧ Hc D = some (.lst acc) ∧ acc.length ≤ i ∧ Reps en' F' acc zs ∧ Nx F1 H1 F' Hc ∧
    mwp (compM (ys.drop i) cm me) (fun rest => ∀ F' H' p vs, Nx F H F' H' → H p = none → F' p = none → H' p = some (.lst vs) → vs.length ≤ sizeLine → Reps en' F' vs (zs ++ rest) → Q (.ref p) H') Z.Er, ?_, ?_⟩
  · exact ⟨_, rfl, Nat.zero_le _, F1, [], [], g2, upd_same, Nat.le_refl _, .nil, (Nx.new ⟨Same.refl _, Same.refl _, n1.fh, fun _ h => .inl h⟩ hD), q⟩
  · rintro i m Hc ⟨rfl, hil, F', acc, zs, hF, hH, hal, hr, nn, q⟩
    have gh := nn.hh
    obtain ⟨t1, t2⟩ := itr i F' Hc nn.ff nn.fh gh
    by_cases hlt : i < ys.length
    · have hy : ys[i]? = some ys[i] := List.getElem?_eq_getElem hlt
      obtain ⟨go, yl⟩ := t1 _ hy
      rw [List.drop_eq_getElem_cons hlt] at q
      refine .inr ⟨go, fun Hd => ∃ F' acc zs, F' D = none ∧ Hd D = some (.lst acc) ∧ acc.length ≤ i + 1 ∧ Reps en' F' acc zs ∧ Nx F1 H1 F' Hd ∧
        mwp (compM (ys.drop (i + 1)) cm me) (fun rest => ∀ F' H' p vs, Nx F H F' H' → H p = none → F' p = none → H' p = some (.lst vs) → vs.length ≤ sizeLine → Reps en' F' vs (zs ++ rest) → Q (.ref p) H') Z.Er, fun Hd h => ⟨ys.length - (i + 1), by omega, rfl, hlt, h⟩, fun x H'' hx => ?_⟩
      obtain ⟨F2, n2, rx⟩ := yl x H'' hx
      have nnn := nn.trans n2
      have hF2 := n2.non hF (by rw [hH]; exact fun z => nomatch z)
      have hH2 := n2.hh _ _ hH
      have S2 := ((S.nx (n1.trans nnn)).wipe (own.map (·.2))).er (Er := fun _ => False)
      intro s H0 C cl fp
      refine hg s H0 C cl fp _ F2 ad _ _ H'' x ys[i] _ S2 rx fun σ3 S3 k1 k2 => ⟨?_, ?_⟩
      · rw [wipe_eq (σ := L2.wipe σ (own.map (·.2))) k1 fun i hi' => k2 i fun z => hi' (hi i z)]
        refine List.ext_getElem? fun i => ?_
        rw [wipe_get, wipe_get, wipe_length]
        split <;> rfl
      · refine hc ys[i] F2 ad σ3 H'' _ S3 ((mwp.nx (mwp.bi q)).imp fun b q F3 H3 n3 => ?_)
        have hF3 := n3.non hF2 (by rw [hH2]; exact fun z => nomatch z)
        have hH3 := n3.hh _ _ hH2
        cases b with
        | false => exact ⟨F3, acc, zs, hF3, hH3, by omega, hr.mono (n2.trans n3).ff, nnn.trans n3, q⟩
        | true =>
          rw [if_pos rfl]
          rw [if_pos rfl] at q
          intro s H0 C cl fp
          refine he ys[i] s H0 C cl fp F3 ad σ3 H3 _ (S3.nx n3) ((mwp.nx (mwp.bi q)).imp fun z q F4 H4 v n4 rv => ?_)
          have hF4 := n4.non hF3 (by rw [hH3]; exact fun z => nomatch z)
          have hH4 := n4.hh _ _ hH3
          have nf := (nnn.trans n3).trans n4
          refine ⟨acc, hH4, Nat.lt_of_le_of_lt hal (Nat.lt_of_lt_of_le hlt hz), F4, acc ++ [v], zs ++ [z], hF4, upd_same, by rw [List.length_append, List.length_singleton]; omega, (hr.mono ((n2.trans n3).trans n4).ff).snoc rv, ?_, ?_⟩
          · refine ⟨nf.ff, fun b o h => ?_, fun b o h => ?_, nf.nw⟩
            · rw [upd_ne (ne_of_none h hD)]
              exact nf.hh b o h
            · rw [upd_ne (ne_of_none h hF4)]
              exact nf.fh b o h
          · refine (mwp.bi q).imp fun rest q F' H' p vs n h1 h2 h3 hz' h4 => q F' H' p vs n h1 h2 h3 hz' ?_
            rw [List.append_assoc] at h4
            exact h4
    · have e : i = ys.length := by omega
      subst e
      rw [List.drop_length] at q
      have q : ∀ F' H' p vs, Nx F H F' H' → H p = none → F' p = none → H' p = some (.lst vs) → vs.length ≤ sizeLine → Reps en' F' vs (zs ++ []) → Q (.ref p) H' := q
      rw [List.append_nil] at q
      exact .inl ⟨t2 (Nat.le_refl _), q F' Hc D acc (n1.trans nn) g1 hF hH (Nat.le_trans hal hz) hr⟩
theorem fj_lcO {en : Enc X.K β} {en' : Enc X.K α} {m : Res (List β)} {is : List Nat} {bd : β → List (Sl X.K) → List (Sl X.K)} {me : β → Res α} (am : Amb X Z k) (ok : BlkOk X.N X.env.scope scope own) (hs : SJO X Z sp tg iter m en)
    (hg : ∀ s H C cl fp, GJ (blkX X scope s H C cl fp) tg en is bd) (he : ∀ y s H C cl fp, EJ (blkX X scope s H C cl fp) Z.mute (blkS sp own bd y) elt (me y) en') (hi : ∀ i ∈ is, i ∈ own.map (·.2) := by decide)
    (hf : ∀ x, foldedSetIterable iter X.env x = pure x := by intro _; rfl) : FJ X Z sp (.ListComp elt [⟨tg, iter, [], 0⟩] scope pos) (m.bi fun ys => mapMx ys me) en' := fun F ad σ H Q S hm => by
  refine ofE (pe_lc am.calm am.nd pi_w ok pgAll (fun _ _ _ _ _ => pts_nil) peAll hf) ?_
  refine lc_okO (cm := fun _ => .ok true) hs hg hi (fun y F ad σ H Q S h => h F H S.refl) he F ad σ H Q S ?_
  rw [show (fun ys => compM ys (fun _ => .ok true) me) = (fun ys => mapMx ys me) from funext fun ys => compM_map me ys]
  exact hm
theorem fj_lcO_p {en : Enc X.K β} {en' : Enc X.K α} {m : Res (List β)} {is : List Nat} {bd : β → List (Sl X.K) → List (Sl X.K)} {g : β → α} (am : Amb X Z k) (ok : BlkOk X.N X.env.scope scope own) (hs : SJO X Z sp tg iter m en)
    (hg : ∀ s H C cl fp, GJ (blkX X scope s H C cl fp) tg en is bd) (he : ∀ y s H C cl fp, EJ (blkX X scope s H C cl fp) Z.mute (blkS sp own bd y) elt (.ok (g y)) en') (hi : ∀ i ∈ is, i ∈ own.map (·.2) := by decide)
    (hf : ∀ x, foldedSetIterable iter X.env x = pure x := by intro _; rfl) : FJ X Z sp (.ListComp elt [⟨tg, iter, [], 0⟩] scope pos) (m.bi fun ys => .ok (ys.map g)) en' := fun F ad σ H Q S hm => by
  refine fj_lcO am ok hs hg he hi hf F ad σ H Q S ?_
  rw [show (fun ys => mapMx ys fun y => .ok (g y)) = (fun ys => .ok (ys.map g)) from funext fun ys => mapMx_ok g ys]
  exact hm
/-- [elt for tg in iter if c] -/
theorem fj_lcifO {en : Enc X.K β} {en' : Enc X.K α} {m : Res (List β)} {is : List Nat} {bd : β → List (Sl X.K) → List (Sl X.K)} {cm : β → Res Bool} {me : β → Res α} (am : Amb X Z k) (ok : BlkOk X.N X.env.scope scope own) (hs : SJO X Z sp tg iter m en)
    (hg : ∀ s H C cl fp, GJ (blkX X scope s H C cl fp) tg en is bd) (hc : ∀ y s H C cl fp, TJ (blkX X scope s H C cl fp) Z.mute (blkS sp own bd y) c (cm y)) (he : ∀ y s H C cl fp, EJ (blkX X scope s H C cl fp) Z.mute (blkS sp own bd y) elt (me y) en') (hi : ∀ i ∈ is, i ∈ own.map (·.2) := by decide)
    (hf : ∀ x, foldedSetIterable iter X.env x = pure x := by intro _; rfl) : FJ X Z sp (.ListComp elt [⟨tg, iter, [c], 0⟩] scope pos) (m.bi fun ys => compM ys cm me) en' := fun F ad σ H Q S hm => by
  refine ofE (pe_lc am.calm am.nd pi_w ok pgAll ptAll peAll hf) ?_
  exact lc_okO hs hg hi (fun y F ad σ H Q S h s H0 C cl fp => hc y s H0 C cl fp F ad σ H Q S h) he F ad σ H Q S hm
theorem fj_lcifO_p {en : Enc X.K β} {en' : Enc X.K α} {m : Res (List β)} {is : List Nat} {bd : β → List (Sl X.K) → List (Sl X.K)} {cb : β → Bool} {g : β → α} (am : Amb X Z k) (ok : BlkOk X.N X.env.scope scope own) (hs : SJO X Z sp tg iter m en)
    (hg : ∀ s H C cl fp, GJ (blkX X scope s H C cl fp) tg en is bd) (hc : ∀ y s H C cl fp, TJ (blkX X scope s H C cl fp) Z.mute (blkS sp own bd y) c (.ok (cb y))) (he : ∀ y s H C cl fp, EJ (blkX X scope s H C cl fp) Z.mute (blkS sp own bd y) elt (.ok (g y)) en') (hi : ∀ i ∈ is, i ∈ own.map (·.2) := by decide)
    (hf : ∀ x, foldedSetIterable iter X.env x = pure x := by intro _; rfl) : FJ X Z sp (.ListComp elt [⟨tg, iter, [c], 0⟩] scope pos) (m.bi fun ys => .ok ((ys.filter cb).map g)) en' := fun F ad σ H Q S hm => by
  refine fj_lcifO am ok hs hg hc he hi hf F ad σ H Q S ?_
  rw [show (fun ys => compM ys (fun y => .ok (cb y)) fun y => .ok (g y)) = (fun ys => .ok ((ys.filter cb).map g)) from funext fun ys => compM_ok cb g ys]
  exact hm
theorem fj_lcO_pp {en : Enc X.K β} {en' : Enc X.K α} {ys0 : List β} {is : List Nat} {bd : β → List (Sl X.K) → List (Sl X.K)} {g : β → α} (am : Amb X Z k) (ok : BlkOk X.N X.env.scope scope own) (hs : SJO X Z sp tg iter (.ok ys0) en)
    (hg : ∀ s H C cl fp, GJ (blkX X scope s H C cl fp) tg en is bd) (he : ∀ y s H C cl fp, EJ (blkX X scope s H C cl fp) Z.mute (blkS sp own bd y) elt (.ok (g y)) en') (hi : ∀ i ∈ is, i ∈ own.map (·.2) := by decide)
    (hf : ∀ x, foldedSetIterable iter X.env x = pure x := by intro _; rfl) : FJ X Z sp (.ListComp elt [⟨tg, iter, [], 0⟩] scope pos) (Res.ok (ys0.map g)) en' := fj_lcO_p am ok hs hg he hi hf
theorem fj_lcO_sp {en : Enc X.K β} {en' : Enc X.K α} {ys0 : List β} {is : List Nat} {bd : β → List (Sl X.K) → List (Sl X.K)} {me : β → Res α} (am : Amb X Z k) (ok : BlkOk X.N X.env.scope scope own) (hs : SJO X Z sp tg iter (.ok ys0) en)
    (hg : ∀ s H C cl fp, GJ (blkX X scope s H C cl fp) tg en is bd) (he : ∀ y s H C cl fp, EJ (blkX X scope s H C cl fp) Z.mute (blkS sp own bd y) elt (me y) en') (hi : ∀ i ∈ is, i ∈ own.map (·.2) := by decide)
    (hf : ∀ x, foldedSetIterable iter X.env x = pure x := by intro _; rfl) : FJ X Z sp (.ListComp elt [⟨tg, iter, [], 0⟩] scope pos) (mapMx ys0 me) en' := fj_lcO am ok hs hg he hi hf
theorem fj_lcifO_pp {en : Enc X.K β} {en' : Enc X.K α} {ys0 : List β} {is : List Nat} {bd : β → List (Sl X.K) → List (Sl X.K)} {cb : β → Bool} {g : β → α} (am : Amb X Z k) (ok : BlkOk X.N X.env.scope scope own) (hs : SJO X Z sp tg iter (.ok ys0) en)
    (hg : ∀ s H C cl fp, GJ (blkX X scope s H C cl fp) tg en is bd) (hc : ∀ y s H C cl fp, TJ (blkX X scope s H C cl fp) Z.mute (blkS sp own bd y) c (.ok (cb y))) (he : ∀ y s H C cl fp, EJ (blkX X scope s H C cl fp) Z.mute (blkS sp own bd y) elt (.ok (g y)) en') (hi : ∀ i ∈ is, i ∈ own.map (·.2) := by decide)
    (hf : ∀ x, foldedSetIterable iter X.env x = pure x := by intro _; rfl) : FJ X Z sp (.ListComp elt [⟨tg, iter, [c], 0⟩] scope pos) (Res.ok ((ys0.filter cb).map g)) en' := fj_lcifO_p am ok hs hg hc he hi hf
theorem fj_lcifO_sp {en : Enc X.K β} {en' : Enc X.K α} {ys0 : List β} {is : List Nat} {bd : β → List (Sl X.K) → List (Sl X.K)} {cm : β → Res Bool} {me : β → Res α} (am : Amb X Z k) (ok : BlkOk X.N X.env.scope scope own) (hs : SJO X Z sp tg iter (.ok ys0) en)
    (hg : ∀ s H C cl fp, GJ (blkX X scope s H C cl fp) tg en is bd) (hc : ∀ y s H C cl fp, TJ (blkX X scope s H C cl fp) Z.mute (blkS sp own bd y) c (cm y)) (he : ∀ y s H C cl fp, EJ (blkX X scope s H C cl fp) Z.mute (blkS sp own bd y) elt (me y) en') (hi : ∀ i ∈ is, i ∈ own.map (·.2) := by decide)
    (hf : ∀ x, foldedSetIterable iter X.env x = pure x := by intro _; rfl) : FJ X Z sp (.ListComp elt [⟨tg, iter, [c], 0⟩] scope pos) (compM ys0 cm me) en' := fj_lcifO am ok hs hg hc he hi hf
end
end Wk

set_option Elab.async false
set_option linter.all false
set_option maxRecDepth 100000
set_option maxHeartbeats 4000000
namespace Wk
open PySem PySem.Spec PyProof.Rows L2
/-! ### an exception that is kept -/
/-- an error of the class cls at a, without a dict of its own -/
def ExT (cls : Value) (a : Addr) : HO := .ext fun h => ∃ (oe : Obj) (vs : Array Value), h.get? a = some oe ∧ Zc cls none oe ∧ oe.data = .fields vs
theorem exT_ok {P : Program} {w : World} {H : Hp} {h : Heap} {a : Addr} {cls : Value} {oe : Obj} {vs : Array Value} (e : h.get? a = some oe) (z : Zc cls none oe) (d : oe.data = .fields vs) : ObjOk P w H h a (ExT cls a) :=
  ⟨⟨oe, vs, e, z, d⟩, ⟨oe, e⟩, fun _ _ ⟨o, v, q, r⟩ k => ⟨o, v, k o q, r⟩⟩
section
variable {X : Cx} {pins : List (Addr × Obj)} {σ : Sg} {H : Hp} {s : Shared}
/-- what is held becomes part of what is told -/
theorem Inv.track {a : Addr} {oe : Obj} {cls : Value} {vs : Array Value} (I : Inv X ((a, oe) :: pins) σ H s) (ok : X.Ok) (hz : Zc cls none oe) (hd : oe.data = .fields vs) (n0 : X.s_0.heap.get? a = none) (np : ∀ p ∈ X.pn ++ pins, p.1 ≠ a) : Inv X pins σ (upd H a (ExT cls a)) s := by
  obtain ⟨e1, e2, e3, e4, e5⟩ := I.pin (a, oe) (List.mem_append_right _ (List.mem_cons_self ..))
  have e1 : s.heap.get? a = some oe := e1
  have e2 : H a = none := e2
  have ne0 : ∀ b o, X.s_0.heap.get? b = some o → b ≠ a := fun b o e z => by
    rw [z, n0] at e
    cases e
  refine ⟨ok, I.os, I.bare, ⟨I.base.keep, I.base.slot, fun b o e n hx => ?_, I.base.there, fun b xs e => ?_, fun b o u e => ?_, fun b ps e => ?_⟩, I.loc, I.cell, ?_, fun x c hc => ?_, fun p hp => ?_, fun b u e => ?_, I.len⟩
  · rw [upd_ne (ne0 b o e)]
    exact I.base.free b o e n hx
  · have z := I.base.tups b xs e
    rw [upd_ne (ne_of_none z e2)]
    exact z
  · have z := I.base.frzs b o u e
    rw [upd_ne (ne_of_none z e2)]
    exact z
  · obtain ⟨m, z⟩ := I.base.tbls b ps e
    exact ⟨m, by rw [upd_ne (ne_of_none z e2)]; exact z⟩
  · rw [upd_ne (Ne.symm e3)]
    exact I.free
  · have ne : c ≠ a := fun z => by
      obtain ⟨v, o, ho, hv⟩ := I.cell x c hc
      rw [z, e1] at ho
      cases ho
      exact e5 v hv
    rw [upd_ne ne]
    exact I.freeC x c hc
  · obtain ⟨a1, a2, a3, a4, a5⟩ := I.pin p (by
      rcases List.mem_append.mp hp with h | h
      · exact List.mem_append_left _ h
      · exact List.mem_append_right _ (List.mem_cons_of_mem _ h))
    exact ⟨a1, by rw [upd_ne (np p hp)]; exact a2, a3, a4, a5⟩
  · by_cases hb : b = a
    · subst hb
      rw [upd_same] at e
      cases e
      exact exT_ok e1 hz hd
    · rw [upd_ne hb] at e
      exact (I.hok b u e).stay (fun c v _ q => q) (fun c q => by rw [upd_ne (ne_of_none q e2)]; exact q) fun c xs q => by rw [upd_ne (ne_of_none q e2)]; exact q
theorem Inv.unsuiteP {a : Addr} {q : Addr × Obj} {pn' : List (Addr × Obj)} (I : Inv (X.suite a (q :: (X.pn ++ pins))) pn' σ H s) (ok : X.Ok) : Inv X (q :: pins) σ H s :=
  ⟨ok, I.os, I.bare, I.base, I.loc, I.cell, I.free, I.freeC, fun p hp => I.pin p (by
    refine List.mem_append_left _ ?_
    rcases List.mem_append.mp hp with h | h
    · exact List.mem_cons_of_mem _ (List.mem_append_left _ h)
    · rcases List.mem_cons.mp h with h | h
      · rw [h]
        exact List.mem_cons_self ..
      · exact List.mem_cons_of_mem _ (List.mem_append_right _ h)), I.hok, I.len⟩
end
/-- 'except x as n', the error kept behind the suite -/
def wAsX (K : Frag) (c : Value) (i : Nat) (ts : Addr → Value → Option Addr → TS) (D : Ends) : WX := fun cls d σ H =>
  d = none ∧ PySem.W.exmOne K cls c = some true ∧ ∀ a, H a = none → ts a cls d { nx := fun σ' H' => D.nx (σ'.set i none) (upd H' a (ExT cls a)), rt := fun _ _ => False, bk := fun _ _ => False, ct := fun _ _ => False } (σ.set i (some (.ref a))) H
section
variable {X : Cx} {x n : Str} {c : Value} {i : Nat} {body suite : List Stmt} {b₀ : Stmt} {np pos pos' : Pos} {tb : WX → TS} {ts : Addr → Value → Option Addr → TS}
theorem ps_try_asX (hs : X.stack = X.env :: X.outer) (hf : X.env.frame = some X.env.locals) (hex : X.ex = []) (hN : X.N.Nodup) (hi : X.N[i]? = some n) (hln : X.env.kindOf n = some .local) (hc : Names X x c)
    (hb : ∀ (W : WX) (pn : List (Addr × Obj)) (xe : Value → Shared → Prop), Takes (X.tr pn xe) W → PassesOwn (model X.prog X.w) X.A X.env xe → PSs (X.tr pn xe) body (tb W))
    (hsu : ∀ (a : Addr) (oe : Obj) (cls : Value) (d : Option Addr) (pn : List (Addr × Obj)), Zc cls d oe → (∃ vs, oe.data = .fields vs) → PSs (X.suite a ((a, oe) :: pn)) (b₀ :: suite) (ts a cls d)) :
    PS X (.Try body [.ExceptHandler (some (.Name x np)) (some n) (b₀ :: suite) pos'] [] [] pos) (fun D σ H => tb (wAsX X.K c i ts D) D σ H) := by
  refine ⟨fun pins s σ H D I h => ?_⟩
  have ok := I.ok
  have hfr : X.A.frames = some (X.env :: X.outer) := by rw [ok.frames, hs]
  have hloc : Loc X.env.scope n := .inl hln
  refine wpAny_Try_except ?_
  refine wpAny_mono ((hb (wAsX X.K c i ts D) (X.pn ++ pins) (fun e s₁ => wpAny (model X.prog X.w) X.A (noteFrame e X.env) (fun _ s₂ => wpAny (model X.prog X.w) X.A (setFlight e none) (fun _ s₃ =>
    wpAny (model X.prog X.w) X.A (handleBy e X.env [.ExceptHandler (some (.Name x np)) (some n) (b₀ :: suite) pos']) (SP X pins D) X.xe s₃) X.xe s₂) X.xe s₁) (fun u s' xx => ?_) PassesOwn.looking).run [] s σ H D (I.toTry _) h) (fun f s1 hsp => ?_) (fun e s1 he => he)
  · -- the catch
    obtain ⟨a, B, sI, pins', σ', H', cls, d, rfl, J', nb, up, sky, na, os, ag, hd0, hb1, hyes⟩ := xx
    subst hd0
    have J : Inv X pins σ' H' sI := J'.ofTry ok
    have sky' : Sky B (X.env :: X.outer) a (Zc cls none) X.env.locals s'.heap := by rw [← hs]; exact sky
    show wpAny (model X.prog X.w) X.A (noteFrame (.ref a) X.env) _ _ _
    refine Sky.land Zc.steady hfr hf sky' fun h3 fl3 up3 => ?_
    have J3 : Inv X pins σ' H' { s' with heap := h3 } := J.landed nb fl3.1 (up.trans up3) os ag
    obtain ⟨oe3, vs3, he3, hz3, hd3⟩ := fl3.there
    have notFr : ∀ {h : Heap} {o : Obj} {vs : Array Value}, h.FunFrames B (X.env :: X.outer) → h.get? a = some o → o.data = .fields vs → a ∉ frs (X.env :: X.outer) := fun {h o vs} ff e dd hm => by
      obtain ⟨_, o', e', hnf⟩ := ff.mem hm
      rw [e] at e'; cases e'
      exact hnf _ dd
    have nfr := notFr fl3.2.2.1 he3 hd3
    have nL : a ≠ X.env.locals := fun z => nfr (List.mem_filterMap.mpr ⟨X.env, List.mem_cons_self, by rw [hf, z]⟩)
    have nF : a ∉ X.fs := fun hm => by
      obtain ⟨e, he, q⟩ := List.mem_filterMap.mp hm
      exact nfr (List.mem_filterMap.mpr ⟨e, List.mem_cons_of_mem _ he, q⟩)
    have nI : sI.heap.get? a = none := by
      cases q : sI.heap.get? a with
      | none => rfl
      | some o =>
        have z := nb a o q (by rw [hs]; exact nfr)
        rw [fl3.2.1] at z
        cases z
    have n0 : X.s_0.heap.get? a = none := by
      cases q : X.s_0.heap.get? a with
      | none => rfl
      | some o =>
        obtain ⟨o', z⟩ := J.base.there a o q (by rw [hex]; exact fun z => nomatch z)
        rw [nI] at z
        cases z
    have np' : ∀ p ∈ X.pn ++ pins, p.1 ≠ a := fun p hp z => by
      have q := (J.pin p hp).1
      rw [z, nI] at q
      cases q
    have S3 := J3.suite he3 hd3 na nL nF
    refine wpAny_handleBy_cons (codeAny_handlers_test ?_) (by intro q; cases q)
    have LT : PySem.W.Looks (model X.prog X.w) h3 (typeOf (.ref a)) cls := fun A Q E s k q => wpAny_typeOf_ref (k _ _ he3) (by rw [hz3.1]; exact q)
    have LM := PySem.W.exm_one (M := model X.prog X.w) (J3.kIn) LT hb1
    have test : ∀ {Q : Value → Shared → Prop} {E : Value → Shared → Prop}, Q c { s' with heap := h3 } → wpAny (model X.prog X.w) (X.A.mark (some (.ref a))) (eval (.Name x np) X.env) Q E { s' with heap := h3 } := fun {Q E} q => by
      obtain ⟨hg, hdbg, hm | ⟨hm, hv, hnn⟩⟩ := hc
      · exact ld_glob (X := X.suite a ((a, oe3) :: (X.pn ++ pins))) S3 hg hm q hdbg
      · exact ld_blt (X := X.suite a ((a, oe3) :: (X.pn ++ pins))) S3 hg hm hv q hnn hdbg
    refine test (LM.here ?_)
    refine codeAny_handlers_suite_as ?_
    refine HandSPX.lands_againZ fl3 fun h4 fl4 up4 => ?_
    have J4 : Inv X pins σ' H' { s' with heap := h4 } := J.landed nb fl4.1 ((up.trans up3).trans up4) os ag
    obtain ⟨oe4, vs4, he4, hz4, hd4⟩ := fl4.there
    have S4 := J4.suite he4 hd4 na nL nF
    refine store_ok (X := X.suite a ((a, oe4) :: (X.pn ++ pins))) (v := .ref a) S4 hN hi hloc rfl (fun s5 S5 => ?_) (.inr hln)
    refine wpAny_mono ((hsu a oe4 cls none (X.pn ++ pins) hz4 ⟨_, hd4⟩).run [] s5 _ H' _ S5 (hyes a na)) (fun f s6 hsp => ?_) (fun _ _ z => False.elim z)
    cases f with
    | next =>
      obtain ⟨σ6, H6, S6, q6⟩ := hsp
      exact gone_ok (Wk.Inv.unsuiteP S6 ok) hN hi hln fun s7 J7 => ⟨_, _, Inv.track J7 ok hz4 hd4 n0 np', q6⟩
    | brk =>
      obtain ⟨σ6, H6, S6, q6⟩ := hsp
      exact q6.elim
    | cont =>
      obtain ⟨σ6, H6, S6, q6⟩ := hsp
      exact q6.elim
    | ret u =>
      obtain ⟨v6, σ6, H6, S6, r6, q6⟩ := hsp
      exact q6.elim
  · cases f with
    | next =>
      obtain ⟨σ', H', J', q⟩ := hsp
      exact wpAny_execs_nil ⟨σ', H', J'.ofTry ok, q⟩
    | brk =>
      obtain ⟨σ', H', J', q⟩ := hsp
      exact ⟨σ', H', J'.ofTry ok, q⟩
    | cont =>
      obtain ⟨σ', H', J', q⟩ := hsp
      exact ⟨σ', H', J'.ofTry ok, q⟩
    | ret u =>
      obtain ⟨v, σ', H', J', r, q⟩ := hsp
      exact ⟨v, σ', H', J'.ofTry ok, r, q⟩
end
end Wk

set_option Elab.async false
set_option linter.all false
set_option maxRecDepth 100000
set_option maxHeartbeats 4000000
namespace Wk
open PySem PySem.Spec PyProof.Rows L2
/-! ### errors by their names -/
/-- c is an x (the text's own classes: all stand straight under SluiceError) -/
def subX (c x : Str) : Bool := decide (c = x) || decide (x = ("SluiceError" : Str))
/-- what the heap says of the classes ns (raised), ts (asked for) -/
structure XF (K : Frag) (mg : Str → Option Value) (ns ts : List Str) : Prop where
  cls : ∀ c ∈ ns, ExcC K (He.ga K c)
  glo : ∀ c ∈ ns ++ ts, mg c = some (.ref (He.ga K c))
  exm : ∀ c ∈ ns, ∀ x ∈ ts, PySem.W.exmOne K (.ref (He.ga K c)) (.ref (He.ga K x)) = some (subX c x)
  isi : ∀ c ∈ ns, ∀ x ∈ ts, PySem.W.kitOne K (.ref (He.ga K c)) (.ref (He.ga K x)) = some (subX c x)
  isv : ∀ c ∈ ns, PySem.W.kitOne K (.ref (He.ga K c)) (.type "ValueError") = some true
  non : ∀ x ∈ ts, PySem.W.kitOne K (.type "NoneType") (.ref (He.ga K x)) = some false
/-- .. as a truth -/
def excCB (K : Frag) (D : Addr) : Bool :=
  He.eqO (PySem.W.findIn K (.ref D) "__getattribute__") (some (some (.builtin "BaseException.__getattribute__"))) && (He.eqO (PySem.W.findIn K (.ref D) "__getattr__") (some none) && (decide (PySem.W.subIn K (.ref D) (.type "BaseException") = some true) && (PySem.W.hasDictIn K D &&
  (He.eqO (PySem.W.findIn K (.ref D) "__class__") (some (some (.builtin "object.__class__"))) && (He.eqO (PySem.W.specialIn K (.builtin "object.__class__") "__get__") (some (some (.builtin "getset_descriptor.__get__"))) && (decide (PySem.W.takesIn K (.builtin "object.__class__") = some true) && decide (PySem.W.mroIn K D (.type "object") = some true)))))))
theorem excCB_ok {K : Frag} {D : Addr} (h : excCB K D = true) : ExcC K D := by
  unfold excCB at h
  obtain ⟨a1, h⟩ := He.ba h
  obtain ⟨a2, h⟩ := He.ba h
  obtain ⟨a3, h⟩ := He.ba h
  obtain ⟨a4, h⟩ := He.ba h
  obtain ⟨a5, h⟩ := He.ba h
  obtain ⟨a6, h⟩ := He.ba h
  obtain ⟨a7, a8⟩ := He.ba h
  exact ⟨He.eqO_ok a1, He.eqO_ok a2, of_decide_eq_true a3, a4, He.eqO_ok a5, He.eqO_ok a6, of_decide_eq_true a7, of_decide_eq_true a8⟩
def xfB (K : Frag) (ns ts : List Str) : Bool :=
  (ns.all fun c => excCB K (He.ga K c)) && (((ns ++ ts).all fun c => He.eqO (PySem.W.nsIn K mainGlobals c) (some (some (.ref (He.ga K c))))) && ((ns.all fun c => ts.all fun x => decide (PySem.W.exmOne K (.ref (He.ga K c)) (.ref (He.ga K x)) = some (subX c x))) &&
  ((ns.all fun c => ts.all fun x => decide (PySem.W.kitOne K (.ref (He.ga K c)) (.ref (He.ga K x)) = some (subX c x))) && ((ns.all fun c => decide (PySem.W.kitOne K (.ref (He.ga K c)) (.type "ValueError") = some true)) && (ts.all fun x => decide (PySem.W.kitOne K (.type "NoneType") (.ref (He.ga K x)) = some false))))))
theorem xfB_ok {K : Frag} {h : Heap} {mg : Str → Option Value} {ns ts : List Str} (X : K.In h) (G : h.Ns mainGlobals mg) (c : xfB K ns ts = true) : XF K mg ns ts := by
  unfold xfB at c
  obtain ⟨a1, c⟩ := He.ba c
  obtain ⟨a2, c⟩ := He.ba c
  obtain ⟨a3, c⟩ := He.ba c
  obtain ⟨a4, c⟩ := He.ba c
  obtain ⟨a5, a6⟩ := He.ba c
  refine ⟨fun c hc => excCB_ok (List.all_eq_true.mp a1 c hc), fun c hc => PySem.W.mg_of X G (He.eqO_ok (List.all_eq_true.mp a2 c hc)), fun c hc x hx => ?_, fun c hc x hx => ?_, fun c hc => ?_, fun x hx => ?_⟩
  · exact of_decide_eq_true (List.all_eq_true.mp (List.all_eq_true.mp a3 c hc) x hx)
  · exact of_decide_eq_true (List.all_eq_true.mp (List.all_eq_true.mp a4 c hc) x hx)
  · exact of_decide_eq_true (List.all_eq_true.mp a5 c hc)
  · exact of_decide_eq_true (List.all_eq_true.mp a6 x hx)
/-- an error that is kept -/
def eX {K : Frag} (ns : List Str) : Enc K Str := ⟨fun F v c => c ∈ ns ∧ ∃ a, v = .ref a ∧ F a = some (ExT (.ref (He.ga K c)) a), fun s ⟨h0, a, h1, h2⟩ => ⟨h0, a, h1, s _ _ h2⟩⟩
theorem nonX {K : Frag} {ns : List Str} : NoN (eX (K := K) ns) := fun F v a h z => by
  obtain ⟨_, p, e, _⟩ := h
  rw [e] at z; cases z
def rIsX (K : Frag) : List V → Hp → VK → Prop := fun xs H Q => ∃ (a D : Addr) (c : V) (u : Value) (b : Bool), xs = [.ref a, c] ∧ ClsV c u ∧ H a = some (ExT (.ref D) a) ∧ ExcC K D ∧ PySem.W.kitOne K (.ref D) u = some b ∧ Q (.bl b) H
theorem call_isX {X : Cx} : CallR X (.builtin "isinstance") (rIsX X.K) := by
  intro pins s σ H xs us Q I r h
  obtain ⟨a, D, c, u, b, rfl, k, ea, C, e, q⟩ := h
  obtain ⟨u1, u2, rfl, r1, r2⟩ := vals2 r
  have e2 := k.eq r2
  subst e2
  cases (show u1 = Value.ref a from r1)
  obtain ⟨⟨oe, vs, e1, hz, hv⟩, _, _⟩ := I.hok a _ ea
  have J : PySem.W.InstAt s.heap a oe D none := by
    obtain ⟨oc, od, oda, osl⟩ := oe
    obtain ⟨h1, h2⟩ := hz
    dsimp only at h1 h2 hv
    subst h1 h2 hv
    exact ⟨e1, rfl, rfl, trivial⟩
  exact PySem.W.kia_one (PySem.W.handS_kitx_exc C.hg C.hk C.hs C.hd C.ha C.hn C.ht C.hm) I.kIn J e (fun z => nomatch z) fun tk => ⟨.bl b, H, I.tok tk, rfl, q⟩
/-- what may be an error that is kept, or None -/
def isXO (o : Option Str) (x : Str) : Bool := match o with
  | none => false
  | some c => subX c x
section
variable {X : Cx} {Z : Fz} {sp : Spec X.K} {a b c e : Expr} {es : List Expr} {pos p p2 fp xp : Pos} {α β γ ρ : Type} {k j : Nat} {x : Str} {F F' H H' : Hp} {ad : List Addr} {σ : Sg} {Qr : ρ → Prop} {D : Ends} {st : Stmt} {rest body thn els : List Stmt} {ns ts : List Str}
theorem ej_isXO {m : Res (Option Str)} (xf : XF X.K X.mg ns ts) (hm : X.mg "isinstance" = none) (ha : EJ X Z sp a m (eO (eX ns))) (hx : x ∈ ts := by decide) (hg : Gl X "isinstance" := by rfl) (hg2 : Gl X x := by rfl) (hn : nst a = true := by rfl) (hdb : (x == ("__debug__" : Str)) = false := by decide) :
    EJ X Z sp (.Call (.Name "isinstance" fp) [a, .Name x xp] [] pos) (m.bi fun o => .ok (isXO o x)) eB := fun F ad σ H Q S hq => by
  have gx := xf.glo x (List.mem_append_right _ hx)
  have pc : PE X (.Name x xp) (tC (.ref (He.ga X.K x))) := pe_glob hg2 gx rfl hdb
  have hb : PE X (.Call (.Name "isinstance" fp) [a, .Name x xp] [] pos) (fun σ H Q => wE X a σ H fun v H1 => (v = .non ∧ Q (.bl false) H1) ∨ ∃ c ∈ ns, ∃ p, v = .ref p ∧ H1 p = some (ExT (.ref (He.ga X.K c)) p) ∧ Q (.bl (subX c x)) H1) := ⟨fun pins s σ H Q I h => by
    have h1 := callB2 (call_isi (X := X)) (pos := pos) (fp := fp) hg hm PyProof.Rows.boot_isinstance hn (b := .Name x xp) rfl
    have h2 := callB2 (call_isX (X := X)) (pos := pos) (fp := fp) hg hm PyProof.Rows.boot_isinstance hn (b := .Name x xp) rfl
    have h3 : CallR X (.builtin "isinstance") (fun xs H Q => rIsi X.K xs H Q ∨ rIsX X.K xs H Q) := fun pins s σ H xs us Q I r h => by
      rcases h with h | h
      · exact call_isi pins s σ H xs us Q I r h
      · exact call_isX pins s σ H xs us Q I r h
    have h4 := callB2 h3 (pos := pos) (fp := fp) hg hm PyProof.Rows.boot_isinstance hn (b := .Name x xp) rfl
    refine h4.run pins s σ H Q I ?_
    have mono : ∀ {Q1 Q2 : VK}, (∀ v H, Q1 v H → Q2 v H) → wE X a σ H Q1 → wE X a σ H Q2 := fun {Q1 Q2} hk hw => by
      unfold wE at hw ⊢
      intro pins s I
      exact wpAny_mono (hw pins s I) (fun u s' ⟨v, H', I', r', q'⟩ => ⟨v, H', I', r', hk v H' q'⟩) fun _ _ z => z
    refine mono (fun v H1 hq => ?_) h
    refine ofE pc ?_
    rcases hq with ⟨rfl, q⟩ | ⟨c, hc, p, rfl, hp, q⟩
    · exact .inl ⟨.non, .ref (He.ga X.K x), .type "NoneType", .ref (He.ga X.K x), false, rfl, .own _, .base .non, xf.non x hx, q⟩
    · exact .inr ⟨p, He.ga X.K c, .ref (He.ga X.K x), .ref (He.ga X.K x), subX c x, rfl, .own _, hp, xf.cls c hc, xf.isi c hc x hx, q⟩⟩
  refine ofE hb ?_
  refine ha F ad σ H _ S (hq.bi.imp fun o q F1 H1 v n1 r1 => ?_)
  cases o with
  | none => exact .inl ⟨r1, q F1 H1 _ n1 rfl⟩
  | some c =>
    obtain ⟨hc, p, e1, e2⟩ := r1
    exact .inr ⟨c, hc, p, e1, n1.fh _ _ e2, q F1 H1 _ n1 rfl⟩
theorem ej_isXO_p {o : Option Str} (xf : XF X.K X.mg ns ts) (hm : X.mg "isinstance" = none) (ha : EJ X Z sp a (.ok o) (eO (eX ns))) (hx : x ∈ ts := by decide) (hg : Gl X "isinstance" := by rfl) (hg2 : Gl X x := by rfl) (hn : nst a = true := by rfl) (hdb : (x == ("__debug__" : Str)) = false := by decide) :
    EJ X Z sp (.Call (.Name "isinstance" fp) [a, .Name x xp] [] pos) (.ok (isXO o x)) eB := ej_isXO xf hm ha hx hg hg2 hn hdb
theorem ej_isX {m : Res Str} (xf : XF X.K X.mg ns ts) (hm : X.mg "isinstance" = none) (ha : EJ X Z sp a m (eX ns)) (hx : x ∈ ts := by decide) (hg : Gl X "isinstance" := by rfl) (hg2 : Gl X x := by rfl) (hn : nst a = true := by rfl) (hdb : (x == ("__debug__" : Str)) = false := by decide) :
    EJ X Z sp (.Call (.Name "isinstance" fp) [a, .Name x xp] [] pos) (m.bi fun c => .ok (subX c x)) eB := fun F ad σ H Q S hq =>
  ej_isXO (m := m.bi fun a => .ok (some a)) xf hm (ej_some ha) hx hg hg2 hn hdb F ad σ H Q S (by
    rw [bi_bi]
    exact hq)
theorem ej_isX_p {o : Str} (xf : XF X.K X.mg ns ts) (hm : X.mg "isinstance" = none) (ha : EJ X Z sp a (.ok o) (eX ns)) (hx : x ∈ ts := by decide) (hg : Gl X "isinstance" := by rfl) (hg2 : Gl X x := by rfl) (hn : nst a = true := by rfl) (hdb : (x == ("__debug__" : Str)) = false := by decide) :
    EJ X Z sp (.Call (.Name "isinstance" fp) [a, .Name x xp] [] pos) (.ok (subX o x)) eB := ej_isX xf hm ha hx hg hg2 hn hdb
/-- isinstance(e, ValueError) -/
theorem ej_isVO {m : Res (Option Str)} (xf : XF X.K X.mg ns ts) (hm : X.mg "isinstance" = none) (hm2 : X.mg "ValueError" = none) (ha : EJ X Z sp a m (eO (eX ns))) (hg : Gl X "isinstance" := by rfl) (hg2 : Gl X "ValueError" := by rfl) (hn : nst a = true := by rfl) :
    EJ X Z sp (.Call (.Name "isinstance" fp) [a, .Name "ValueError" xp] [] pos) (m.bi fun o => .ok !o.isNone) eB := fun F ad σ H Q S hq => by
  have pc : PE X (.Name "ValueError" xp) (tC (.ty "ValueError")) := pe_bltn (v := .ty "ValueError") hg2 hm2 (by decide +kernel) rfl (by decide) (by decide)
  have hb : PE X (.Call (.Name "isinstance" fp) [a, .Name "ValueError" xp] [] pos) (fun σ H Q => wE X a σ H fun v H1 => (v = .non ∧ Q (.bl false) H1) ∨ ∃ c ∈ ns, ∃ p, v = .ref p ∧ H1 p = some (ExT (.ref (He.ga X.K c)) p) ∧ Q (.bl true) H1) := ⟨fun pins s σ H Q I h => by
    have h3 : CallR X (.builtin "isinstance") (fun xs H Q => rIsi X.K xs H Q ∨ rIsX X.K xs H Q) := fun pins s σ H xs us Q I r h => by
      rcases h with h | h
      · exact call_isi pins s σ H xs us Q I r h
      · exact call_isX pins s σ H xs us Q I r h
    have h4 := callB2 h3 (pos := pos) (fp := fp) hg hm PyProof.Rows.boot_isinstance hn (b := .Name "ValueError" xp) rfl
    refine h4.run pins s σ H Q I ?_
    have mono : ∀ {Q1 Q2 : VK}, (∀ v H, Q1 v H → Q2 v H) → wE X a σ H Q1 → wE X a σ H Q2 := fun {Q1 Q2} hk hw => by
      unfold wE at hw ⊢
      intro pins s I
      exact wpAny_mono (hw pins s I) (fun u s' ⟨v, H', I', r', q'⟩ => ⟨v, H', I', r', hk v H' q'⟩) fun _ _ z => z
    refine mono (fun v H1 hq => ?_) h
    refine ofE pc ?_
    rcases hq with ⟨rfl, q⟩ | ⟨c, hc, p, rfl, hp, q⟩
    · exact .inl ⟨.non, .ty "ValueError", .type "NoneType", .type "ValueError", false, rfl, .ty _, .base .non, kit_ty (by decide +kernel), q⟩
    · exact .inr ⟨p, He.ga X.K c, .ty "ValueError", .type "ValueError", true, rfl, .ty _, hp, xf.cls c hc, xf.isv c hc, q⟩⟩
  refine ofE hb ?_
  refine ha F ad σ H _ S (hq.bi.imp fun o q F1 H1 v n1 r1 => ?_)
  cases o with
  | none => exact .inl ⟨r1, q F1 H1 _ n1 rfl⟩
  | some c =>
    obtain ⟨hc, p, e1, e2⟩ := r1
    exact .inr ⟨c, hc, p, e1, n1.fh _ _ e2, q F1 H1 _ n1 rfl⟩
theorem ej_isVO_p {o : Option Str} (xf : XF X.K X.mg ns ts) (hm : X.mg "isinstance" = none) (hm2 : X.mg "ValueError" = none) (ha : EJ X Z sp a (.ok o) (eO (eX ns))) (hg : Gl X "isinstance" := by rfl) (hg2 : Gl X "ValueError" := by rfl) (hn : nst a = true := by rfl) :
    EJ X Z sp (.Call (.Name "isinstance" fp) [a, .Name "ValueError" xp] [] pos) (.ok !o.isNone) eB := ej_isVO xf hm hm2 ha hg hg2 hn
theorem ej_isV {m : Res Str} (xf : XF X.K X.mg ns ts) (hm : X.mg "isinstance" = none) (hm2 : X.mg "ValueError" = none) (ha : EJ X Z sp a m (eX ns)) (hg : Gl X "isinstance" := by rfl) (hg2 : Gl X "ValueError" := by rfl) (hn : nst a = true := by rfl) :
    EJ X Z sp (.Call (.Name "isinstance" fp) [a, .Name "ValueError" xp] [] pos) (m.bi fun _ => .ok true) eB := fun F ad σ H Q S hq =>
  ej_isVO (m := m.bi fun a => .ok (some a)) xf hm hm2 (ej_some ha) hg hg2 hn F ad σ H Q S (by
    rw [bi_bi]
    exact hq)
theorem ej_isV_p {o : Str} (xf : XF X.K X.mg ns ts) (hm : X.mg "isinstance" = none) (hm2 : X.mg "ValueError" = none) (ha : EJ X Z sp a (.ok o) (eX ns)) (hg : Gl X "isinstance" := by rfl) (hg2 : Gl X "ValueError" := by rfl) (hn : nst a = true := by rfl) :
    EJ X Z sp (.Call (.Name "isinstance" fp) [a, .Name "ValueError" xp] [] pos) (.ok true) eB := ej_isV xf hm hm2 ha hg hg2 hn
/-! ### the body of a try -/
def TBJ (X : Cx) (Z : Fz) (sp : Spec X.K) (body : List Stmt) {β : Type} (m : Res β) (spN : β → Spec X.K) (spE : Spec X.K) : Prop :=
  ∀ (F : Hp) (ad : List Addr) (σ : Sg) (H : Hp) (D : Ends) (W : WX), SOk Z F ad sp σ H → Takes X W →
    mwp m (fun r => ∀ F' ad' σ' H', SOk Z F' ad' (spN r) σ' H' → D.nx σ' H') (fun c => ∀ C F' ad' H', SOk Z F' ad' spE σ H' → X.mg c = some (.ref C) → W (.ref C) none σ H') → wB X body D σ H
theorem tbj_core {A : ArE X.K γ} {mf : γ → Res ρ} {R : RtE ρ} {ma : Res γ} (hr : Room k X.A) (C : Cal X.prog X.w X.K X.mg X.base x j (spF X.mg A mf R)) (hj : j ≤ k) (ha : AJ X Z.mute sp (e :: es) ma A) (hn : nst e = true) (hg : Gl X x)
    (hpl : (backTo pos (starEach es X.env)).any (·.1) = false) (hdb : (x == ("__debug__" : Str)) = false) (F : Hp) (ad : List Addr) (σ : Sg) (H : Hp) (Q : VK) (W : WX) (S : SOk Z F ad sp σ H) (tk : Takes X W)
    (hm : mwp (ma.nx.bi mf) (fun r => ∀ F' H' v F1 H1, Nx F H F1 H1 → Nx F1 H1 F' H' → R H1 F' H' v r → Q v H') (fun c => ∀ C F' ad' H', SOk Z F' ad' sp σ H' → X.mg c = some (.ref C) → W (.ref C) none σ H')) : wE X (.Call (.Name x fp) (e :: es) [] pos) σ H Q := by
  obtain ⟨f, fd, ps, G, hmg, hk, hb⟩ := C.ex
  refine ofE (pe_callS (E := WE W) G (hr.mono hj) hg hmg hk hb (fun σ => passAt tk σ) pa_w hdb (star_cons hn) hpl) ?_
  refine ha F ad σ H _ (S.er (Er := fun _ => False)) ((mwp.nx (mwp.bi hm)).imp fun g q F1 H1 vs n1 r1 => ?_)
  show spF X.mg A mf R vs H1 Q (WE W σ)
  exact ⟨F1, g, n1.fh, r1, q.imp2 (fun r q F' H' v n2 hr => q F' H' v F1 H1 n1 n2 hr) fun c q C H' hC s => q C F1 ad H' ((S.nx n1).nx ⟨Same.refl _, s, n1.fh.trans s, fun _ h => .inl h⟩) hC⟩
/-- f(..) -/
theorem tbj_ex {A : ArE X.K γ} {mf : γ → Res ρ} {R : RtE ρ} {ma : Res γ} {pos' : Pos} (hr : Room k X.A) (C : Cal X.prog X.w X.K X.mg X.base x j (spF X.mg A mf R)) (hj : j ≤ k) (ha : AJ X Z.mute sp (e :: es) ma A) (hn : nst e = true := by rfl) (hg : Gl X x := by rfl)
    (hpl : (backTo pos (starEach es X.env)).any (·.1) = false := by rfl) (hdb : (x == ("__debug__" : Str)) = false := by decide) (hw : swapsWith (.Call (.Name x fp) (e :: es) [] pos) none pos'.line X.env = pure false := by rfl) :
    TBJ X Z sp [.Expr (.Call (.Name x fp) (e :: es) [] pos) pos'] ((ma.nx.bi mf).bi fun _ => .ok ()) (fun _ => sp) sp := fun F ad σ H D W S tk hm => by
  refine ofB (pss_one (ps_expr pe_w hw)) ?_
  refine tbj_core hr C hj ha hn hg hpl hdb F ad σ H _ W S tk (hm.bi.imp2 (fun r q F' H' v F1 H1 n1 n2 _ => ?_) fun c q => q)
  exact q F' ad σ H' (S.nx (n1.trans n2))
/-- y = f(..) -/
theorem tbj_as {A : ArE X.K γ} {mf : γ → Res ρ} {en : Enc X.K ρ} {ma : Res γ} {i : Nat} {y : Str} {py spos : Pos} (am : Amb X Z.mute k) (C : Cal X.prog X.w X.K X.mg X.base x j (spF X.mg A mf (rtV en))) (hj : j ≤ k) (ha : AJ X Z.mute sp (e :: es) ma A) (hn : nst e = true := by rfl) (hg : Gl X x := by rfl)
    (hpl : (backTo pos (starEach es X.env)).any (·.1) = false := by rfl) (hdb : (x == ("__debug__" : Str)) = false := by decide) (hi : X.N[i]? = some y := by rfl) (hx : Loc X.env.scope y := by first | exact Or.inl rfl | exact Or.inr rfl)
    (hs : swapsWith (.Call (.Name x fp) (e :: es) [] pos) (some (.Name y py)) spos.line X.env = pure false := by rfl) (hf : X.fn y = true ∨ X.env.scope.names.lookup y = some .local := by first | exact .inl rfl | exact .inr rfl) :
    TBJ X Z sp [.Assign [.Name y py] (.Call (.Name x fp) (e :: es) [] pos) spos] (ma.nx.bi mf) (fun r => ⟨sp.sl.set i (.val en r), sp.ob⟩) sp := fun F ad σ H D W S tk hm => by
  refine ofB (pss_one (ps_set am.nd hi hx pe_w hs hf)) ?_
  refine tbj_core am.hr C hj ha hn hg hpl hdb F ad σ H _ W S tk (hm.imp2 (fun r q F' H' v F1 H1 n1 n2 hr => ?_) fun c q => q)
  exact q F' ad _ H' ((S.nx (n1.trans n2)).set ⟨v, rfl, hr⟩)
/-- y = f(..), a new list that stays as it is -/
theorem tbj_asN {A : ArE X.K γ} {mf : γ → Res (List ρ)} {en : Enc X.K ρ} {ma : Res γ} {i : Nat} {y : Str} {py spos : Pos} (am : Amb X Z.mute k) (C : Cal X.prog X.w X.K X.mg X.base x j (spF X.mg A mf (rtN en))) (hj : j ≤ k) (ha : AJ X Z.mute sp (e :: es) ma A) (hn : nst e = true := by rfl) (hg : Gl X x := by rfl)
    (hpl : (backTo pos (starEach es X.env)).any (·.1) = false := by rfl) (hdb : (x == ("__debug__" : Str)) = false := by decide) (hi : X.N[i]? = some y := by rfl) (hx : Loc X.env.scope y := by first | exact Or.inl rfl | exact Or.inr rfl)
    (hs : swapsWith (.Call (.Name x fp) (e :: es) [] pos) (some (.Name y py)) spos.line X.env = pure false := by rfl) (hf : X.fn y = true ∨ X.env.scope.names.lookup y = some .local := by first | exact .inl rfl | exact .inr rfl) :
    TBJ X Z sp [.Assign [.Name y py] (.Call (.Name x fp) (e :: es) [] pos) spos] (ma.nx.bi mf) (fun r => ⟨sp.sl.set i (.val (eL en) r), sp.ob⟩) sp := fun F ad σ H D W S tk hm => by
  refine ofB (pss_one (ps_set am.nd hi hx pe_w hs hf)) ?_
  refine tbj_core am.hr C hj ha hn hg hpl hdb F ad σ H _ W S tk (hm.imp2 (fun r q F' H' v F1 H1 n1 n2 hr => ?_) fun c q => q)
  obtain ⟨p, vs, rfl, h1, h2, h3, hz, h4⟩ := hr
  exact q (L2.upd F' p (.lst vs)) ad _ H' ((S.nx ((n1.trans n2).fix (n1.hh.free h1) h2 h3)).set ⟨.ref p, rfl, p, vs, rfl, upd_same, hz, h4.mono (same_upd h2)⟩)
/-- y = f(..) -/
theorem tbj_asO {A : ArE X.K γ} {mf : γ → Res ρ} {en : Enc X.K ρ} {ma : Res γ} {i : Nat} {y : Str} {py spos : Pos} (am : Amb X Z.mute k) (C : Cal X.prog X.w X.K X.mg X.base x j (spF X.mg A mf (rtV en))) (hj : j ≤ k) (ha : AJ X Z.mute sp (e :: es) ma A) (hn : nst e = true := by rfl) (hg : Gl X x := by rfl)
    (hpl : (backTo pos (starEach es X.env)).any (·.1) = false := by rfl) (hdb : (x == ("__debug__" : Str)) = false := by decide) (hi : X.N[i]? = some y := by rfl) (hx : Loc X.env.scope y := by first | exact Or.inl rfl | exact Or.inr rfl)
    (hs : swapsWith (.Call (.Name x fp) (e :: es) [] pos) (some (.Name y py)) spos.line X.env = pure false := by rfl) (hf : X.fn y = true ∨ X.env.scope.names.lookup y = some .local := by first | exact .inl rfl | exact .inr rfl) :
    TBJ X Z sp [.Assign [.Name y py] (.Call (.Name x fp) (e :: es) [] pos) spos] (ma.nx.bi mf) (fun r => ⟨sp.sl.set i (.val (eO en) (some r)), sp.ob⟩) sp := fun F ad σ H D W S tk hm => by
  refine ofB (pss_one (ps_set am.nd hi hx pe_w hs hf)) ?_
  refine tbj_core am.hr C hj ha hn hg hpl hdb F ad σ H _ W S tk (hm.imp2 (fun r q F' H' v F1 H1 n1 n2 hr => ?_) fun c q => q)
  exact q F' ad _ H' ((S.nx (n1.trans n2)).set ⟨v, rfl, hr⟩)
/-- y = f(..), a new list that stays as it is -/
theorem tbj_asNO {A : ArE X.K γ} {mf : γ → Res (List ρ)} {en : Enc X.K ρ} {ma : Res γ} {i : Nat} {y : Str} {py spos : Pos} (am : Amb X Z.mute k) (C : Cal X.prog X.w X.K X.mg X.base x j (spF X.mg A mf (rtN en))) (hj : j ≤ k) (ha : AJ X Z.mute sp (e :: es) ma A) (hn : nst e = true := by rfl) (hg : Gl X x := by rfl)
    (hpl : (backTo pos (starEach es X.env)).any (·.1) = false := by rfl) (hdb : (x == ("__debug__" : Str)) = false := by decide) (hi : X.N[i]? = some y := by rfl) (hx : Loc X.env.scope y := by first | exact Or.inl rfl | exact Or.inr rfl)
    (hs : swapsWith (.Call (.Name x fp) (e :: es) [] pos) (some (.Name y py)) spos.line X.env = pure false := by rfl) (hf : X.fn y = true ∨ X.env.scope.names.lookup y = some .local := by first | exact .inl rfl | exact .inr rfl) :
    TBJ X Z sp [.Assign [.Name y py] (.Call (.Name x fp) (e :: es) [] pos) spos] (ma.nx.bi mf) (fun r => ⟨sp.sl.set i (.val (eO (eL en)) (some r)), sp.ob⟩) sp := fun F ad σ H D W S tk hm => by
  refine ofB (pss_one (ps_set am.nd hi hx pe_w hs hf)) ?_
  refine tbj_core am.hr C hj ha hn hg hpl hdb F ad σ H _ W S tk (hm.imp2 (fun r q F' H' v F1 H1 n1 n2 hr => ?_) fun c q => q)
  obtain ⟨p, vs, rfl, h1, h2, h3, hz, h4⟩ := hr
  exact q (L2.upd F' p (.lst vs)) ad _ H' ((S.nx ((n1.trans n2).fix (n1.hh.free h1) h2 h3)).set ⟨.ref p, rfl, p, vs, rfl, upd_same, hz, h4.mono (same_upd h2)⟩)
/-- by a test -/
theorem tbj_if {mc : Res Bool} {mA mB : Res β} {spN : β → Spec X.K} {spE : Spec X.K} (hc : TJ X Z.mute sp c mc) (hA : TBJ X Z sp thn mA spN spE) (hB : TBJ X Z sp els mB spN spE) : TBJ X Z sp [.If c thn els pos] (mc.nx.bi fun b => if b then mA else mB) spN spE := fun F ad σ H D W S tk hm => by
  refine ofB (pss_one (ps_if pt_w pb_w pb_w)) ?_
  refine hc F ad σ H _ (S.er (Er := fun _ => False)) ((mwp.nx (mwp.bi hm)).imp fun b q F' H' n => ?_)
  cases b with
  | true => exact hA F' ad σ H' D W (S.nx n) tk q
  | false => exact hB F' ad σ H' D W (S.nx n) tk q
/-- what comes of it: what it gives, or the error's name -/
def tryM (ns : List Str) (m : Res β) : Res (β ⊕ Str) := match m with
  | .ok a => .ok (.inl a)
  | .exc c => if c ∈ ns then .ok (.inr c) else .bad
  | .bad => .bad
theorem mwp.try {m : Res β} {Q : β ⊕ Str → Prop} {E : Str → Prop} (h : mwp (tryM ns m) Q E) : mwp m (fun a => Q (.inl a)) (fun c => c ∈ ns ∧ Q (.inr c)) := by
  cases m with
  | ok a => exact h
  | bad => exact h
  | exc c =>
    have h : mwp (if c ∈ ns then (Res.ok (.inr c) : Res (β ⊕ Str)) else .bad) Q E := h
    by_cases hc : c ∈ ns
    · rw [if_pos hc] at h
      exact ⟨hc, h⟩
    · rw [if_neg hc] at h
      exact h.elim
theorem SOk.keepX {c : Str} {l : Addr} {i ic : Nat} {v : Option V} (S : SOk Z F ad sp σ H) (hc : c ∈ ns) (hl : H l = none) : SOk Z (L2.upd F l (ExT (.ref (He.ga X.K c)) l)) ad ⟨(sp.sl.set i .any).set ic (.val (eO (eX ns)) (some c)), sp.ob⟩ ((σ.set i none).set ic (some (.ref l))) (L2.upd H l (ExT (.ref (He.ga X.K c)) l)) := by
  have n : Nx F H (L2.upd F l (ExT (.ref (He.ga X.K c)) l)) (L2.upd H l (ExT (.ref (He.ga X.K c)) l)) := (S.refl.new hl).fix hl (S.fh.free hl) upd_same
  exact ((S.nx n).drop1 i).set ⟨.ref l, rfl, hc, l, rfl, upd_same⟩
theorem set_set_none {σ : Sg} {i ic : Nat} {v w : Option V} (h : ic ≠ i) : ((σ.set i v).set ic w).set i none = (σ.set i none).set ic w := by
  rw [List.set_comm _ _ h, List.set_set]
/-- try: body, except X as n: y = n -/
theorem bj_tryS {S : Type} {mb : Res β} {spN : β → Spec X.K} {spE : Spec X.K} {sps : S → Spec X.K} {fN : β → S} {fE : Str → S} {kk : S → Res ρ} {i ic : Nat} {n y : Str} {np p1 p3 pos' : Pos} {ks ks' : List Nat} (am : Amb X Z k) (xf : XF X.K X.mg ns ts)
    (hb : ∀ pn xe, Amb (X.tr pn xe) Z.mute k → TBJ (X.tr pn xe) Z sp body mb spN spE) (leN : ∀ r, Le (spN r) (sps (fN r)) ks) (leE : ∀ c, Le ⟨(spE.sl.set i .any).set ic (.val (eO (eX ns)) (some c)), spE.ob⟩ (sps (fE c)) ks') (hr : ∀ s, BJ X Z Qr D (sps s) rest (kk s))
    (hsub : ns.all (fun c => subX c x) = true := by decide) (hts : x ∈ ts := by decide) (hic : ic ≠ i := by decide) (hil : Nat.ble (i + 1) spE.sl.length = true := by rfl)
    (hi : X.N[i]? = some n := by rfl) (hy : X.N[ic]? = some y := by rfl) (hln : X.env.kindOf n = some .local := by rfl) (hyl : X.env.scope.names.lookup y = some .local := by rfl)
    (hs : X.stack = X.env :: X.outer := by rfl) (hf : X.env.frame = some X.env.locals := by rfl) (hex : X.ex = [] := by rfl) (hg : Gl X x := by rfl) (hdb : (x == ("__debug__" : Str)) = false := by decide) (hnl : n ≠ y := by decide)
    (hv : Vis X.env.scope n := by first | exact Or.inl rfl | exact Or.inr (Or.inl rfl) | exact Or.inr (Or.inr rfl)) (hd : (n == ("__debug__" : Str)) = false := by decide) (hcd : (n == ("__classdict__" : Str)) = false := by decide)
    (hsw : swapsWith (.Name n p2) (some (.Name y p1)) p3.line X.env = pure false := by rfl) :
    BJ X Z Qr D sp (.Try body [.ExceptHandler (some (.Name x np)) (some n) [.Assign [.Name y p1] (.Name n p2) p3] pos'] [] [] pos :: rest) (((tryM ns mb).bi fun r => .ok (Sum.elim fN fE r)).bi kk) := fun F ad σ H S0 hm => by
  rw [bi_bi] at hm
  refine seq (ofS (ps_try_asX (X := X) (i := i) hs hf hex am.nd hi hln ⟨hg, hdb, .inl (xf.glo x (List.mem_append_right _ hts))⟩ (tb := fun W D σ H => ∀ pn xe, Takes (X.tr pn xe) W → PassesOwn (model X.prog X.w) X.A X.env xe → wB (X.tr pn xe) body D σ H) (ts := fun a cls d D σ H => σ[i]? = some (some (.ref a)) ∧ D.nx (σ.set ic (some (.ref a))) H)
    (fun W pn xe tk po => ⟨fun pins s σ H D I h => pb_w.run pins s σ H D I (h pn xe tk po)⟩)
    (fun a oe cls d pn hz hv' => ⟨fun pins s σ H D I h => ?_⟩)) ?_)
  · obtain ⟨h1, h2⟩ := h
    have pv : PE (X.suite a ((a, oe) :: pn)) (.Name n p2) (tVar i) := pe_var (X := X.suite a ((a, oe) :: pn)) (i := i) hi hv hd hcd
    have ps : PS (X.suite a ((a, oe) :: pn)) (.Assign [.Name y p1] (.Name n p2) p3) (tAsg (tVar i) (gName ic)) := ps_set (X := X.suite a ((a, oe) :: pn)) (i := ic) am.nd hy (.inl hyl) pv hsw (.inr hyl)
    refine (pss_one ps).run pins s σ H D I ?_
    exact ⟨.ref a, h1, h2⟩
  · intro pn xe tk po
    refine hb pn xe ⟨am.hr, am.calm, am.nd, po, fun _ _ _ => False, takes0, fun _ h => h.elim⟩ F ad σ H { D with nx := wB X rest D } (wAsX X.K (.ref (He.ga X.K x)) i (fun a cls d D σ H => σ[i]? = some (some (.ref a)) ∧ D.nx (σ.set ic (some (.ref a))) H) { D with nx := wB X rest D }) S0 tk ?_
    refine (mwp.try (mwp.bi hm)).imp2 (fun r q F' ad' σ' H' S' => ?_) fun c ⟨hc, q⟩ C F' ad' H' S' hC => ?_
    · obtain ⟨ad2, S2⟩ := (leN r).go Z F' ad' σ' H' S'
      exact hr _ F' ad2 σ' H' S2 q
    · have eC : C = He.ga X.K c := by
        have z := (xf.glo c (List.mem_append_left _ hc)).symm.trans hC
        injection z with z
        injection z with z
        exact z.symm
      subst eC
      refine ⟨rfl, ?_, fun a na => ⟨?_, ?_⟩⟩
      · rw [xf.exm c hc x hts, List.all_eq_true.mp hsub c hc]
      · rw [List.getElem?_set_self]
        rw [← S'.len]
        exact Nat.le_of_ble_eq_true hil
      · have S2 := SOk.keepX (ns := ns) (i := i) (ic := ic) (v := none) S' hc na
        obtain ⟨ad2, S3⟩ := (leE c).go Z _ ad' _ _ S2
        show wB X rest D (((σ.set i (some (.ref a))).set ic (some (.ref a))).set i none) _
        rw [set_set_none hic]
        exact hr _ _ ad2 _ _ S3 q
end
/-! ### the head's facts, and of errors -/
section
abbrev AlX : Type := Bool × He.AlD
def obsX (fa : List He.Fa) (fn : List He.DefD) (ex : Frag → Bool) (K : Frag) : AlX := (ex K, He.obsD fa fn K)
def obsXG (n : Nat) (fa : List He.Fa) (fn : List He.DefD) (ex : Frag → Bool) (g : Addr → Option Obj) : AlX := obsX fa fn ex (He.frG g (He.asD g n))
def hookX (n : Nat) (fa : List He.Fa) (fn : List He.DefD) (ex : Frag → Bool) : PySem.W.Hook where
  α := AlX
  obs := fun s => obsXG n fa fn ex s.heap.get?
  val := fun _ => (true, He.valD fn)
  says := fun _ h => ∃ K : Frag, K.In h ∧ obsX fa fn ex K = (true, He.valD fn)
  of := fun _ _ e => ⟨_, He.frG_in, e⟩
  keeps := fun _ _ _ ⟨K, hK, c⟩ k => ⟨K, PySem.W.Frag.In.keeps hK k, c⟩
theorem obsXG_eq {n : Nat} {fa : List He.Fa} {fn : List He.DefD} {ex : Frag → Bool} {g : Addr → Option Obj} {s : Shared} (h : ∀ a, g a = s.heap.get? a) : obsXG n fa fn ex g = (hookX n fa fn ex).obs s := by
  have e : g = s.heap.get? := funext h
  rw [e] <;> rfl
end
end Wk

set_option Elab.async false
set_option linter.all false
set_option maxRecDepth 100000
set_option maxHeartbeats 4000000
namespace Wk
open PySem PySem.Spec PyProof.Rows L2
section
variable {X : Cx} {Z : Fz} {sp : Spec X.K} {a b c e : Expr} {es : List Expr} {pos p p2 fp : Pos} {α β γ δ ρ θ : Type} {k j : Nat} {x : Str} {F F' H H' : Hp} {ad : List Addr} {σ : Sg} {Qr : ρ → Prop} {D : Ends} {st : Stmt} {st' rest body : List Stmt} {m : Res ρ} {t : Option Addr} {tg it : Expr}
/-- a new list handed in to be changed, looked at no more -/
theorem mst0 {ob : List (Ob X.K)} {en : Enc X.K α} : MSt ob [none] (obs1 en) (fun _ => ob) := by
  refine ⟨fun d => rfl, fun {Z ad ps F H G F' H' d} pk hob hg hst ho => ⟨fun i o hi => .inl ⟨hi, by simp⟩, fun p hp ha => ?_⟩⟩
  rcases pk_mem (o := none) pk p hp with ⟨k, h1, _⟩ | h
  · simp at h1
  · exact absurd h (hst p ha)
/-! ### a tuple of things alike, as a row -/
structure HomT {K : Frag} {γ α : Type} (r : VsE K γ) (en : Enc K α) (n : Nat) (f : γ → List α) : Prop where
  go : ∀ F vs g, r.rep F vs g → vs.length = n ∧ Reps en F vs (f g)
theorem hom1 {K : Frag} {en : Enc K α} : HomT (vs1 en) en 1 (fun a => [a]) := ⟨fun F vs g ⟨v, h, r⟩ => by
  subst h
  exact ⟨rfl, .cons r .nil⟩⟩
theorem homC {K : Frag} {en : Enc K α} {r : VsE K γ} {n : Nat} {f : γ → List α} (h : HomT r en n f) : HomT (vsC en r) en (n + 1) (fun g => g.1 :: f g.2) := ⟨fun F vs g ⟨v, ws, e, r1, r2⟩ => by
  subst e
  obtain ⟨h1, h2⟩ := h.go F ws g.2 r2
  exact ⟨by rw [List.length_cons, h1], .cons r1 h2⟩⟩
theorem ej_ttl {r : VsE X.K γ} {en : Enc X.K α} {n : Nat} {f : γ → List α} {m : Res γ} (hh : HomT r en n f) (h : EJ X Z sp e m (eT r)) (hz : Nat.ble n 1000 = true := by rfl) : EJ X Z sp e (m.bi fun g => .ok (f g)) (eTL en) := fun F ad σ H Q S hq =>
  h F ad σ H Q S (hq.bi.imp fun g q F' H' v n r => by
    obtain ⟨p, vs, rfl, h1, h2⟩ := r
    obtain ⟨k1, k2⟩ := hh.go F' vs g h2
    exact q F' H' (.ref p) n ⟨p, vs, rfl, h1, Nat.le_of_lt (small1000 (by have := Nat.le_of_ble_eq_true hz; omega)), k2⟩)
theorem ej_ttl_p {r : VsE X.K γ} {en : Enc X.K α} {n : Nat} {f : γ → List α} {g : γ} (hh : HomT r en n f) (h : EJ X Z sp e (.ok g) (eT r)) (hz : Nat.ble n 1000 = true := by rfl) : EJ X Z sp e (.ok (f g)) (eTL en) := ej_ttl hh h hz
/-- a tuple of any length, walked -/
theorem sj_tupl {en : Enc X.K α} {m : Res (List α)} (h : EJ X Z sp it m (eTL en)) : SJ X Z sp tg it m en := fun F ad σ H R S hm => by
  refine ofI (pi_tup pe_w) ?_
  refine h F ad σ H _ S (hm.imp fun xs q F1 H1 v n1 r1 => ?_)
  obtain ⟨p, vs, rfl, h1, hz, r1⟩ := r1
  refine ⟨p, rfl, ⟨vs, SqT.of (n1.fh _ _ h1)⟩, q F1 H1 _ n1 (by rw [← r1.length]; exact hz) fun i F' H' s f g => ?_⟩
  have hq : SqT X.K H' p vs := SqT.of (f _ _ (s _ _ h1))
  refine ⟨fun y hy => ?_, fun hl => ⟨vs, hq, by rw [r1.length]; exact hl⟩⟩
  obtain ⟨v, k1, k2⟩ := r1.get hy
  refine ⟨⟨vs, v, hq, k1⟩, fun x H'' yl => ?_⟩
  obtain ⟨rfl, k3⟩ := yl
  have e : v = x := Option.some.inj (k1.symm.trans (k3 vs hq))
  subst e
  exact ⟨F', ⟨Same.refl _, Same.refl _, f, fun _ h => .inl h⟩, en.mono s k2⟩
/-- its length, an item of it -/
theorem ej_lenTL {en : Enc X.K α} {m : Res (List α)} (hm : X.mg "len" = none) (h : EJ X Z sp a m (eTL en)) (hg : Gl X "len" := by rfl) (hn : nst a = true := by rfl) : EJ X Z sp (.Call (.Name "len" fp) [a] [] pos) (m.bi fun xs => .ok (xs.length : Int)) eI := fun F ad σ H Q S hq => by
  refine ofE (callB1 call_len_seq hg hm boot_len hn) ?_
  refine h F ad σ H _ S (hq.bi.imp fun xs q F1 H1 v n1 r1 => ?_)
  obtain ⟨p, vs, rfl, h1, hz, r1⟩ := r1
  refine ⟨p, vs, rfl, .inr (SqT.of (n1.fh _ _ h1)), ?_⟩
  rw [r1.length]
  exact q F1 H1 _ n1 rfl
theorem ej_lenTL_p {en : Enc X.K α} {xs : List α} (hm : X.mg "len" = none) (h : EJ X Z sp a (.ok xs) (eTL en)) (hg : Gl X "len" := by rfl) (hn : nst a = true := by rfl) : EJ X Z sp (.Call (.Name "len" fp) [a] [] pos) (.ok (xs.length : Int)) eI := ej_lenTL hm h hg hn
theorem ej_ixTL {en : Enc X.K α} {ml : Res (List α)} {mi : Res Int} (hl : EJ X Z sp a ml (eTL en)) (hi : EJ X Z sp b mi eI) (hs : PlainIx b := by intro _ _; rfl) : EJ X Z sp (.Subscript a b pos) (ml.bi fun xs => mi.bi fun i => geti xs i) en := fun F ad σ H Q S hm => by
  refine ofE (pe_ix ix_tup pe_w pe_w hs) ?_
  refine hl F ad σ H _ S (hm.bi.imp fun xs q F1 H1 v n1 r1 => ?_)
  obtain ⟨p, vs, rfl, h1, hz1, r1⟩ := r1
  refine hi F1 ad σ H1 _ (S.nx n1) (q.bi.imp fun i q F2 H2 u n2 r2 => ?_)
  obtain ⟨x, hx, q⟩ := q.geti
  obtain ⟨v, hv, rv⟩ := (r1.mono n2.ff).atI hx
  exact ⟨p, vs, i, v, rfl, r2, SqT.of (n2.hh _ _ (n1.fh _ _ h1)), hv, q F2 H2 v (n1.trans n2) rv⟩
theorem ej_ixTL_p {en : Enc X.K α} {xs : List α} {i : Int} (hl : EJ X Z sp a (.ok xs) (eTL en)) (hi : EJ X Z sp b (.ok i) eI) (hs : PlainIx b := by intro _ _; rfl) : EJ X Z sp (.Subscript a b pos) (geti xs i) en := ej_ixTL hl hi hs
end
end Wk

set_option Elab.async false
set_option linter.all false
set_option maxRecDepth 100000
set_option maxHeartbeats 4000000
namespace Wk
open PySem PySem.Spec PyProof.Rows L2

/-! ### things of ours that hold others -/
inductive Sh where
  | tup | lst | ins (C : Addr) (ns : List Str)
def Sh.is : Sh → HO → List V → Prop
  | .tup, o, vs => o = .tup vs
  | .lst, o, vs => o = .lst vs
  | .ins C ns, o, vs => ns.length = vs.length ∧ ∃ dx, o = .ins C dx (ns.zip vs)
inductive Fd (K : Frag) : Type 1 where
  | val {α : Type} (e : Enc K α) (a : α)
  | one {σ : Type} (e : OEnc K σ) (s : σ)
  | pk {σ : Type} (e : PkE K σ) (s : σ)
  | at (q : Addr)
section
variable {K : Frag} {α β γ δ : Type}
def lstE (e : Enc K α) : OEnc K (List α) := ⟨fun F o xs => ∃ us, o = .lst us ∧ us.length ≤ sizeLine ∧ Reps e F us xs, fun s ⟨us, h1, h2, h3⟩ => ⟨us, h1, h2, h3.mono s⟩⟩
@[reducible] def Fd.lst (e : Enc K α) (xs : List α) : Fd K := .one (lstE e) xs
inductive FdOk (F H : Hp) : List (Fd K) → List V → List Addr → Prop
  | nil : FdOk F H [] [] []
  | val {α : Type} {e : Enc K α} {a : α} {v : V} {fs : List (Fd K)} {vs : List V} {l : List Addr} (h : e.rep F v a) (r : FdOk F H fs vs l) : FdOk F H (.val e a :: fs) (v :: vs) l
  | one {σ : Type} {e : OEnc K σ} {s : σ} {q : Addr} {o : HO} {fs : List (Fd K)} {vs : List V} {l : List Addr} (h1 : H q = some o) (h2 : e.rep F o s) (r : FdOk F H fs vs l) : FdOk F H (.one e s :: fs) (.ref q :: vs) (q :: l)
  | pk {σ : Type} {e : PkE K σ} {s : σ} {q : Addr} {l1 : List Addr} {fs : List (Fd K)} {vs : List V} {l : List Addr} (h : e.rep F H l1 q s) (r : FdOk F H fs vs l) : FdOk F H (.pk e s :: fs) (.ref q :: vs) (q :: (l1 ++ l))
  | at {q : Addr} {fs : List (Fd K)} {vs : List V} {l : List Addr} (r : FdOk F H fs vs l) : FdOk F H (.at q :: fs) (.ref q :: vs) l
theorem FdOk.go {F F' H H' : Hp} {fs : List (Fd K)} {vs : List V} {l : List Addr} (h : FdOk F H fs vs l) (f : Same F F') (hl : ∀ q ∈ l, ∀ o, H q = some o → H' q = some o) : FdOk F' H' fs vs l := by
  induction h with
  | nil => exact .nil
  | val h r ih => exact .val (Enc.mono _ f h) (ih hl)
  | one h1 h2 r ih => exact .one (hl _ (List.mem_cons_self ..) _ h1) (OEnc.mono _ f h2) (ih fun q hq => hl q (List.mem_cons_of_mem _ hq))
  | pk h r ih => exact .pk (PkE.go _ f (fun q hq => hl q (List.mem_cons_of_mem _ (List.mem_append_left _ hq))) (hl _ (List.mem_cons_self ..)) h) (ih fun q hq => hl q (List.mem_cons_of_mem _ (List.mem_append_right _ hq)))
  | «at» r ih => exact .at (ih hl)
theorem FdOk.len {F H : Hp} {fs : List (Fd K)} {vs : List V} {l : List Addr} (h : FdOk F H fs vs l) : fs.length = vs.length := by
  induction h with
  | nil => rfl
  | val h r ih => rw [List.length_cons, List.length_cons, ih]
  | one h1 h2 r ih => rw [List.length_cons, List.length_cons, ih]
  | pk h r ih => rw [List.length_cons, List.length_cons, ih]
  | «at» r ih => rw [List.length_cons, List.length_cons, ih]
theorem FdOk.st {F H : Hp} {fs : List (Fd K)} {vs : List V} {l : List Addr} (h : FdOk F H fs vs l) {i : Nat} {q : Addr} {f : Fd K} (hi : fs[i]? = some f) : ∃ v, vs[i]? = some v := by
  have := (List.getElem?_eq_some_iff.mp hi).1
  rw [h.len] at this
  exact ⟨_, List.getElem?_eq_getElem this⟩
theorem FdOk.val_at {F H : Hp} {e : Enc K α} {a : α} {fs : List (Fd K)} {vs : List V} {l : List Addr} (h : FdOk F H fs vs l) : ∀ {i : Nat}, fs[i]? = some (.val e a) → ∃ v, vs[i]? = some v ∧ e.rep F v a := by
  induction h with
  | nil => intro i h; simp at h
  | val h r ih =>
    intro i hi
    cases i with
    | zero => cases hi; exact ⟨_, rfl, h⟩
    | succ i => exact ih (i := i) (by simpa using hi)
  | one h1 h2 r ih =>
    intro i hi
    cases i with
    | zero => cases hi
    | succ i => exact ih (i := i) (by simpa using hi)
  | pk h r ih =>
    intro i hi
    cases i with
    | zero => cases hi
    | succ i => exact ih (i := i) (by simpa using hi)
  | «at» r ih =>
    intro i hi
    cases i with
    | zero => cases hi
    | succ i => exact ih (i := i) (by simpa using hi)
theorem FdOk.one_at {F H : Hp} {e : OEnc K α} {a : α} {fs : List (Fd K)} {vs : List V} {l : List Addr} (h : FdOk F H fs vs l) : ∀ {i : Nat}, fs[i]? = some (.one e a) → ∃ q o, vs[i]? = some (.ref q) ∧ q ∈ l ∧ H q = some o ∧ e.rep F o a := by
  induction h with
  | nil => intro i h; simp at h
  | val h r ih =>
    intro i hi
    cases i with
    | zero => cases hi
    | succ i => exact ih (i := i) (by simpa using hi)
  | one h1 h2 r ih =>
    intro i hi
    cases i with
    | zero => cases hi; exact ⟨_, _, rfl, List.mem_cons_self .., h1, h2⟩
    | succ i =>
      obtain ⟨q, o, k1, k2, k3⟩ := ih (i := i) (by simpa using hi)
      exact ⟨q, o, by simpa using k1, List.mem_cons_of_mem _ k2, k3⟩
  | pk h r ih =>
    intro i hi
    cases i with
    | zero => cases hi
    | succ i =>
      obtain ⟨q, o, k1, k2, k3⟩ := ih (i := i) (by simpa using hi)
      exact ⟨q, o, by simpa using k1, List.mem_cons_of_mem _ (List.mem_append_right _ k2), k3⟩
  | «at» r ih =>
    intro i hi
    cases i with
    | zero => cases hi
    | succ i => exact ih (i := i) (by simpa using hi)
/-- one of the objects is changed -/
theorem FdOk.set_one {F H H' : Hp} {e : OEnc K α} {a : α} {e' : OEnc K β} {b : β} {q : Addr} {o' : HO} {fs : List (Fd K)} {vs : List V} {l : List Addr} (h : FdOk F H fs vs l) (ho : ∀ x, x ≠ q → H' x = H x) (hq : H' q = some o') (hr : e'.rep F o' b) :
    ∀ {i : Nat}, l.Nodup → fs[i]? = some (.one e a) → vs[i]? = some (.ref q) → FdOk F H' (fs.set i (.one e' b)) vs l := by
  induction h with
  | nil => intro i nd hi; simp at hi
  | val h r ih =>
    intro i nd hi hv
    cases i with
    | zero => cases hi
    | succ i => exact .val h (ih nd (by simpa using hi) (by simpa using hv))
  | one h1 h2 r ih =>
    intro i nd hi hv
    rw [List.nodup_cons] at nd
    cases i with
    | zero =>
      cases hv
      exact .one hq hr (r.go (Same.refl _) fun x hx o z => by rw [ho x (fun y => nd.1 (y ▸ hx))]; exact z)
    | succ i =>
      obtain ⟨q2, o2, k1, k2, _⟩ := r.one_at (i := i) (by simpa using hi)
      have hv' := by simpa using hv
      have e : q2 = q := by
        have := k1.symm.trans hv'
        cases this
        rfl
      subst e
      exact .one (by rw [ho _ fun z => nd.1 (by rw [z]; exact k2)]; exact h1) h2 (ih nd.2 (by simpa using hi) hv')
  | pk h r ih =>
    intro i nd hi hv
    cases i with
    | zero => cases hi
    | succ i =>
      obtain ⟨q2, o2, k1, k2, _⟩ := r.one_at (i := i) (by simpa using hi)
      have hv' := by simpa using hv
      have e : q2 = q := by
        have := k1.symm.trans hv'
        cases this
        rfl
      subst e
      rw [List.nodup_cons, List.nodup_append] at nd
      obtain ⟨n1, n2, n3, n4⟩ := nd
      refine .pk (PkE.go _ (Same.refl _) (fun x hx o z => by rw [ho x fun y => n4 x hx q2 k2 y]; exact z) (fun o z => by rw [ho _ fun y => n1 (List.mem_append_right _ (by rw [y]; exact k2))]; exact z) h) (ih n3 (by simpa using hi) hv')
  | «at» r ih =>
    intro i nd hi hv
    cases i with
    | zero => cases hi
    | succ i => exact .at (ih nd (by simpa using hi) (by simpa using hv))
/-- another object in the place of whatever stands there -/
theorem FdOk.put_one {F H : Hp} {e' : OEnc K β} {b : β} {q : Addr} {o' : HO} {fs : List (Fd K)} {vs : List V} {l : List Addr} (h : FdOk F H fs vs l) (hq : H q = some o') (hr : e'.rep F o' b) (hn : q ∉ l) :
    ∀ {i : Nat}, l.Nodup → i < fs.length → ∃ l', FdOk F H (fs.set i (.one e' b)) (vs.set i (.ref q)) l' ∧ l'.Nodup ∧ ∀ x ∈ l', x = q ∨ x ∈ l := by
  induction h with
  | nil => intro i nd hi; simp at hi
  | val h r ih =>
    intro i nd hi
    cases i with
    | zero => exact ⟨_, .one hq hr r, List.nodup_cons.mpr ⟨hn, nd⟩, fun x hx => List.mem_cons.mp hx⟩
    | succ i =>
      obtain ⟨l', k1, k2, k3⟩ := ih hn nd (by simpa using hi)
      exact ⟨l', .val h k1, k2, k3⟩
  | one h1 h2 r ih =>
    intro i nd hi
    rw [List.nodup_cons] at nd
    rw [List.mem_cons, not_or] at hn
    cases i with
    | zero => exact ⟨_, .one hq hr r, List.nodup_cons.mpr ⟨hn.2, nd.2⟩, fun x hx => (List.mem_cons.mp hx).imp id (List.mem_cons_of_mem _)⟩
    | succ i =>
      obtain ⟨l', k1, k2, k3⟩ := ih hn.2 nd.2 (by simpa using hi)
      refine ⟨_, .one h1 h2 k1, List.nodup_cons.mpr ⟨fun z => ?_, k2⟩, fun x hx => ?_⟩
      · rcases k3 _ z with z | z
        · exact hn.1 z.symm
        · exact nd.1 z
      · rcases List.mem_cons.mp hx with rfl | hx
        · exact .inr (List.mem_cons_self ..)
        · exact (k3 x hx).imp id (List.mem_cons_of_mem _)
  | pk h r ih =>
    intro i nd hi
    rw [List.nodup_cons, List.nodup_append] at nd
    obtain ⟨n1, n2, n3, n4⟩ := nd
    rw [List.mem_cons, not_or, List.mem_append, not_or] at hn
    cases i with
    | zero => exact ⟨_, .one hq hr r, List.nodup_cons.mpr ⟨hn.2.2, n3⟩, fun x hx => (List.mem_cons.mp hx).imp id fun z => List.mem_cons_of_mem _ (List.mem_append_right _ z)⟩
    | succ i =>
      obtain ⟨l', k1, k2, k3⟩ := ih hn.2.2 n3 (by simpa using hi)
      refine ⟨_, .pk h k1, ?_, fun x hx => ?_⟩
      · rw [List.nodup_cons, List.nodup_append]
        refine ⟨fun z => ?_, n2, k2, fun x hx y hy e => ?_⟩
        · rcases List.mem_append.mp z with z | z
          · exact n1 (List.mem_append_left _ z)
          · rcases k3 _ z with z | z
            · exact hn.1 z.symm
            · exact n1 (List.mem_append_right _ z)
        · rcases k3 _ hy with z | z
          · exact hn.2.1 (by rw [← z, ← e]; exact hx)
          · exact n4 x hx y z e
      · rcases List.mem_cons.mp hx with rfl | hx
        · exact .inr (List.mem_cons_self ..)
        · rcases List.mem_append.mp hx with hx | hx
          · exact .inr (List.mem_cons_of_mem _ (List.mem_append_left _ hx))
          · exact (k3 x hx).imp id fun z => List.mem_cons_of_mem _ (List.mem_append_right _ z)
  | «at» r ih =>
    intro i nd hi
    cases i with
    | zero => exact ⟨_, .one hq hr r, List.nodup_cons.mpr ⟨hn, nd⟩, fun x hx => List.mem_cons.mp hx⟩
    | succ i =>
      obtain ⟨l', k1, k2, k3⟩ := ih hn nd (by simpa using hi)
      exact ⟨l', .at k1, k2, k3⟩
/-- a value in the place of whatever stands there -/
theorem FdOk.put_val {F H : Hp} {e' : Enc K β} {b : β} {v : V} {fs : List (Fd K)} {vs : List V} {l : List Addr} (h : FdOk F H fs vs l) (hr : e'.rep F v b) :
    ∀ {i : Nat}, l.Nodup → i < fs.length → ∃ l', FdOk F H (fs.set i (.val e' b)) (vs.set i v) l' ∧ l'.Nodup ∧ ∀ x ∈ l', x ∈ l := by
  induction h with
  | nil => intro i nd hi; simp at hi
  | val h r ih =>
    intro i nd hi
    cases i with
    | zero => exact ⟨_, .val hr r, nd, fun x hx => hx⟩
    | succ i =>
      obtain ⟨l', k1, k2, k3⟩ := ih nd (by simpa using hi)
      exact ⟨l', .val h k1, k2, k3⟩
  | one h1 h2 r ih =>
    intro i nd hi
    rw [List.nodup_cons] at nd
    cases i with
    | zero => exact ⟨_, .val hr r, nd.2, fun x hx => List.mem_cons_of_mem _ hx⟩
    | succ i =>
      obtain ⟨l', k1, k2, k3⟩ := ih nd.2 (by simpa using hi)
      refine ⟨_, .one h1 h2 k1, List.nodup_cons.mpr ⟨fun z => nd.1 (k3 _ z), k2⟩, fun x hx => ?_⟩
      rcases List.mem_cons.mp hx with rfl | hx
      · exact List.mem_cons_self ..
      · exact List.mem_cons_of_mem _ (k3 x hx)
  | pk h r ih =>
    intro i nd hi
    rw [List.nodup_cons, List.nodup_append] at nd
    obtain ⟨n1, n2, n3, n4⟩ := nd
    cases i with
    | zero => exact ⟨_, .val hr r, n3, fun x hx => List.mem_cons_of_mem _ (List.mem_append_right _ hx)⟩
    | succ i =>
      obtain ⟨l', k1, k2, k3⟩ := ih n3 (by simpa using hi)
      refine ⟨_, .pk h k1, ?_, fun x hx => ?_⟩
      · rw [List.nodup_cons, List.nodup_append]
        refine ⟨fun z => ?_, n2, k2, fun x hx y hy e => n4 x hx y (k3 _ hy) e⟩
        rcases List.mem_append.mp z with z | z
        · exact n1 (List.mem_append_left _ z)
        · exact n1 (List.mem_append_right _ (k3 _ z))
      · rcases List.mem_cons.mp hx with rfl | hx
        · exact List.mem_cons_self ..
        · rcases List.mem_append.mp hx with hx | hx
          · exact List.mem_cons_of_mem _ (List.mem_append_left _ hx)
          · exact List.mem_cons_of_mem _ (List.mem_append_right _ (k3 x hx))
  | «at» r ih =>
    intro i nd hi
    cases i with
    | zero => exact ⟨_, .val hr r, nd, fun x hx => hx⟩
    | succ i =>
      obtain ⟨l', k1, k2, k3⟩ := ih nd (by simpa using hi)
      exact ⟨l', .at k1, k2, k3⟩
/-- how a state is shown by fields -/
abbrev Vw (K : Frag) (γ : Type) := γ → List (Fd K)
def fV (e : Enc K α) : α → Fd K := fun a => .val e a
def fL (e : Enc K α) : List α → Fd K := fun a => .lst e a
def fP (e : PkE K α) : α → Fd K := fun a => .pk e a
def vw1 (f : α → Fd K) : Vw K α := fun a => [f a]
def vwC (f : α → Fd K) (r : Vw K γ) : Vw K (α × γ) := fun g => f g.1 :: r g.2
def pkI (sh : Sh) (vw : Vw K γ) : PkE K γ := ⟨fun F H l p s => ∃ o vs, H p = some o ∧ sh.is o vs ∧ FdOk F H (vw s) vs l, fun f hl hp ⟨o, vs, h1, h2, h3⟩ => ⟨o, vs, hp _ h1, h2, h3.go f hl⟩, fun ⟨o, vs, h1, _⟩ z => by rw [h1] at z; cases z⟩
/-! ### what stays from here on -/
def FzE (E : PkE K γ) (e : Enc K γ) : Prop := ∀ F H F' l p s, E.rep F H l p s → Same F F' → F' p = H p → (∀ q ∈ l, F' q = H q) → e.rep F' (.ref p) s
def FzF (f : α → Fd K) (e : Enc K α) : Prop := ∀ F H F' v l a fs vs, FdOk F H (f a :: fs) (v :: vs) l → Same F F' → (∀ q ∈ l, F' q = H q) → e.rep F' v a ∧ ∃ l', FdOk F H fs vs l' ∧ ∀ q ∈ l', q ∈ l
def FzV (vw : Vw K γ) (r : VsE K γ) : Prop := ∀ F H F' vs l s, FdOk F H (vw s) vs l → Same F F' → (∀ q ∈ l, F' q = H q) → r.rep F' vs s
theorem fzV {e : Enc K α} : FzF (fV e) e := fun F H F' v l a fs vs h f hl => by
  cases h with
  | val h r => exact ⟨e.mono f h, _, r, fun _ h => h⟩
theorem fzL {e : Enc K α} : FzF (fL e) (eL e) := fun F H F' v l a fs vs h f hl => by
  cases h with
  | one h1 h2 r =>
    obtain ⟨us, k1, k2, k3⟩ := h2
    subst k1
    exact ⟨⟨_, us, rfl, by rw [hl _ (List.mem_cons_self ..)]; exact h1, k2, k3.mono f⟩, _, r, fun _ h => List.mem_cons_of_mem _ h⟩
theorem fzP {E : PkE K α} {e : Enc K α} (z : FzE E e) : FzF (fP E) e := fun F H F' v l a fs vs h f hl => by
  cases h with
  | pk h r => exact ⟨z F H F' _ _ _ h f (hl _ (List.mem_cons_self ..)) fun q hq => hl q (List.mem_cons_of_mem _ (List.mem_append_left _ hq)), _, r, fun _ h => List.mem_cons_of_mem _ (List.mem_append_right _ h)⟩
theorem fz1 {f : α → Fd K} {e : Enc K α} (z : FzF f e) : FzV (vw1 f) (vs1 e) := fun F H F' vs l s h s1 hl => by
  have hlen := h.len
  cases vs with
  | nil => cases hlen
  | cons v vs =>
    obtain ⟨k1, l', k2, _⟩ := z F H F' v l s [] vs h s1 hl
    cases k2
    exact ⟨v, rfl, k1⟩
theorem fzC {f : α → Fd K} {e : Enc K α} {vw : Vw K γ} {r : VsE K γ} (z : FzF f e) (zs : FzV vw r) : FzV (vwC f vw) (vsC e r) := fun F H F' vs l s h s1 hl => by
  have hlen := h.len
  cases vs with
  | nil => cases hlen
  | cons v vs =>
    obtain ⟨k1, l', k2, k3⟩ := z F H F' v l s.1 (vw s.2) vs h s1 hl
    exact ⟨v, vs, rfl, k1, zs F H F' vs l' s.2 k2 s1 fun q hq => hl q (k3 q hq)⟩
theorem fzT {vw : Vw K γ} {r : VsE K γ} (z : FzV vw r) : FzE (pkI .tup vw) (eT r) := fun F H F' l p s ⟨o, vs, h1, h2, h3⟩ f hp hl => by
  have h2 : o = .tup vs := h2
  subst h2
  exact ⟨p, vs, rfl, by rw [hp]; exact h1, z F H F' vs l s h3 f hl⟩
theorem fzH {vw : Vw K γ} {r : VsE K γ} (z : FzV vw r) : FzE (pkI .lst vw) (eH r) := fun F H F' l p s ⟨o, vs, h1, h2, h3⟩ f hp hl => by
  have h2 : o = .lst vs := h2
  subst h2
  exact ⟨p, vs, rfl, by rw [hp]; exact h1, z F H F' vs l s h3 f hl⟩
/-- an instance that stays -/
def eIns (C : Addr) (ns : List Str) (r : VsE K γ) : Enc K γ := ⟨fun F v g => ∃ p vs dx, v = .ref p ∧ ns.length = vs.length ∧ F p = some (.ins C dx (ns.zip vs)) ∧ r.rep F vs g, fun {F F' v a} s h => by
  obtain ⟨p, vs, dx, h1, hl, h2, h3⟩ := h
  exact ⟨p, vs, dx, h1, hl, s _ _ h2, r.mono s h3⟩⟩
theorem fzI {C : Addr} {ns : List Str} {vw : Vw K γ} {r : VsE K γ} (z : FzV vw r) : FzE (pkI (.ins C ns) vw) (eIns C ns r) := fun F H F' l p s ⟨o, vs, h1, h2, h3⟩ f hp hl => by
  obtain ⟨hl2, dx, h2⟩ := h2
  subst h2
  exact ⟨p, vs, dx, rfl, hl2, by rw [hp]; exact h1, z F H F' vs l s h3 f hl⟩
theorem fzLL_go {e : Enc K α} {F H F' : Hp} (f : Same F F') : ∀ {l : List Addr} {xss : List (List α)}, (∀ q ∈ l, F' q = H q) → Paired (fun q xs => ∃ vs, H q = some (.lst vs) ∧ vs.length ≤ sizeLine ∧ Reps e F vs xs) l xss → Reps (eL e) F' (l.map V.ref) xss
  | _, _, _, .nil => .nil
  | _, _, hl, .cons ⟨vs, z1, z2, z3⟩ r => .cons ⟨_, vs, rfl, by rw [hl _ (List.mem_cons_self ..)]; exact z1, z2, z3.mono f⟩ (fzLL_go f (fun q hq => hl q (List.mem_cons_of_mem _ hq)) r)
theorem fzLL {e : Enc K α} : FzE (pkLL e) (eL (eL e)) := fun F H F' l p s ⟨h1, h2, h3⟩ f hp hl =>
  ⟨p, l.map V.ref, rfl, by rw [hp]; exact h1, by rw [List.length_map]; exact h2, fzLL_go f hl h3⟩
end
section
variable {X : Cx} {Z : Fz} {sp : Spec X.K} {a b c e : Expr} {es : List Expr} {pos p p2 fp : Pos} {α β γ δ ρ θ : Type} {k j : Nat} {x : Str} {F F' H H' : Hp} {ad : List Addr} {σ : Sg} {Qr : ρ → Prop} {D : Ends} {st : Stmt} {st' rest body : List Stmt} {m : Res ρ} {t : Option Addr} {tg it : Expr}
/-- such a thing is changed, or becomes another -/
theorem SOk.pkset {K : Frag} {sp : Spec K} {E : PkE K α} {s : α} {o : Nat} {q0 : Addr} {L : Nat → List Addr} {l' : List Addr} (S : SOk Z F ad sp σ H) (W : LfW Z.G F H ad sp.ob L) (hp : ad[o]? = some q0) (hF : F q0 = none) (hG : Z.G q0 = none) (hol : o < sp.ob.length)
    (ha : ∀ a, a ≠ q0 → a ∉ l' → H' a = H a) (hb : ∀ q ∈ l', F q = none ∧ Z.G q = none ∧ q ∉ ad ∧ H' q ≠ none ∧ ∀ k, k ≠ o → q ∉ L k) (hn : l'.Nodup) (hd : pkOk Z.G F H' t E l' s q0) : SOk Z F ad ⟨sp.sl, sp.ob.set o (.pk t E s)⟩ σ H' := by
  have keep : ∀ a, F a ≠ none ∨ Z.G a ≠ none → H' a = H a := fun a h => ha a (fun z => by subst z; rcases h with h | h; exact h hF; exact h hG) fun z => by
    rcases h with h | h
    · exact h (hb a z).1
    · exact h (hb a z).2.1
  have others : ∀ (k : Nat) (p : Addr), k ≠ o → ad[k]? = some p → p ≠ q0 ∧ p ∉ l' := fun k p hk hkp => ⟨fun z => by
    subst z
    have l1 := getElem?_some_of hkp
    have l2 := getElem?_some_of hp
    rw [List.getElem?_eq_getElem l1] at hkp
    rw [List.getElem?_eq_getElem l2] at hp
    exact hk ((List.getElem_inj S.nd).mp ((Option.some.inj hkp).trans (Option.some.inj hp).symm)), fun z => (hb p z).2.2.1 (List.mem_of_getElem? hkp)⟩
  refine ⟨S.f0, fun a o h => ?_, fun a o h => ?_, S.fg, S.nd, fun a h => ?_, S.len, S.sl, by simp [S.olen], fun k ob h => ?_, ⟨fun k => if k = o then l' else L k, fun k q hq => ?_, fun k q hq k' hq' => ?_, fun k => ?_, fun k α' t' e' xs' h => ?_⟩⟩
  · rw [keep a (.inl (by rw [h]; exact fun z => nomatch z))]
    exact S.fh _ _ h
  · rw [keep a (.inr (by rw [h]; exact fun z => nomatch z))]
    exact S.gh _ _ h
  · by_cases e : a = q0
    · rw [e]
      exact E.st hd.1
    · rw [ha a e fun z => (hb a z).2.2.1 h]
      exact S.st a h
  · have h : (sp.ob.set o (.pk t E s))[k]? = some ob := h
    by_cases e : k = o
    · subst e
      rw [List.getElem?_set_self hol] at h
      cases h
      exact ⟨q0, hp, trivial⟩
    · rw [List.getElem?_set_ne (Ne.symm e)] at h
      obtain ⟨p, h1, h2⟩ := S.ob k ob h
      refine ⟨p, h1, ?_⟩
      obtain ⟨n1, n2⟩ := others k p e h1
      cases ob with
      | dead => trivial
      | pk _ _ _ => trivial
      | gen t' e' ys =>
        obtain ⟨ws, g1, g2⟩ := h2
        exact ⟨ws, by rw [ha p n1 n2]; exact g1, g2⟩
      | lst t' e' ys =>
        obtain ⟨ws, g1, g2⟩ := h2
        exact ⟨ws, by rw [ha p n1 n2]; exact g1, g2⟩
  · have hq : q ∈ (if k = o then l' else L k) := hq
    by_cases e : k = o
    · rw [if_pos e] at hq
      obtain ⟨a, b, c, d, _⟩ := hb q hq
      exact ⟨c, a, b, d⟩
    · rw [if_neg e] at hq
      obtain ⟨a, b, c, d⟩ := W.di k q hq
      refine ⟨a, b, c, ?_⟩
      rw [ha q (fun z => by subst z; exact a (List.mem_of_getElem? hp)) fun z => (hb q z).2.2.2.2 k e hq]
      exact d
  · have hq : q ∈ (if k = o then l' else L k) := hq
    have hq' : q ∈ (if k' = o then l' else L k') := hq'
    by_cases e : k = o
    · rw [if_pos e] at hq
      by_cases e' : k' = o
      · rw [e, e']
      · rw [if_neg e'] at hq'
        exact absurd hq' ((hb q hq).2.2.2.2 k' e')
    · rw [if_neg e] at hq
      by_cases e' : k' = o
      · rw [if_pos e'] at hq'
        exact absurd hq ((hb q hq').2.2.2.2 k e)
      · rw [if_neg e'] at hq'
        exact W.un k q hq k' hq'
  · show (if k = o then l' else L k).Nodup
    split
    · exact hn
    · exact W.nd k
  · have h : (sp.ob.set o (.pk t E s))[k]? = some (.pk t' e' xs') := h
    by_cases e : k = o
    · subst e
      rw [List.getElem?_set_self hol] at h
      cases h
      refine ⟨q0, hp, ?_⟩
      show pkOk _ _ _ _ _ (if k = k then l' else L k) _ _
      rw [if_pos rfl]
      exact hd
    · rw [List.getElem?_set_ne (Ne.symm e)] at h
      obtain ⟨p, h1, h2⟩ := W.ok k α' t' e' xs' h
      obtain ⟨n1, n2⟩ := others k p e h1
      refine ⟨p, h1, ?_⟩
      show pkOk _ _ _ _ _ (if k = o then l' else L k) _ _
      rw [if_neg e]
      exact h2.go (Same.refl _) (fun q hq o z => by rw [ha q (fun y => by subst y; exact (W.di k q hq).1 (List.mem_of_getElem? hp)) fun y => (hb q y).2.2.2.2 k e hq]; exact z) (fun o z => by rw [ha p n1 n2]; exact z) h2.2.1
theorem SOk.pk {E : PkE X.K α} {s : α} {o : Nat} (S : SOk Z F ad sp σ H) (ho : sp.ob[o]? = some (.pk t E s)) : ∃ q L, ad[o]? = some q ∧ LfW Z.G F H ad sp.ob L ∧ pkOk Z.G F H t E (L o) s q := by
  obtain ⟨L, W⟩ := S.lf
  obtain ⟨p, h4, h5⟩ := W.ok o α t E s ho
  exact ⟨p, L, h4, W, h5⟩
/-- it stays as it is from here on -/
def thawV {K : Frag} {α : Type} (k : Nat) (en : Enc K α) (x : α) : Sl K → Sl K
  | .own j => match Nat.beq j k with
    | true => .val en x
    | false => .own j
  | s => s
theorem SOk.frzPk {K : Frag} {sp : Spec K} {E : PkE K α} {en : Enc K α} {s : α} (fz : FzE E en) (S : SOk Z F ad sp σ H) (ho : sp.ob[k]? = some (.pk t E s)) : ∃ F', SOk Z F' ad ⟨sp.sl.map (thawV k en s), sp.ob.set k .dead⟩ σ H := by
  obtain ⟨L, W⟩ := S.lf
  obtain ⟨p, hp, k1, k4, k5, k6⟩ := W.ok k _ t E s ho
  let F' : Hp := fun a => if a = p ∨ a ∈ L k then H a else F a
  have ff : Same F F' := fun a o h => by
    show (if a = p ∨ a ∈ L k then H a else F a) = some o
    split
    · exact S.fh _ _ h
    · exact h
  have ffp : F' p = H p := if_pos (.inl rfl)
  have ffl : ∀ q ∈ L k, F' q = H q := fun q hq => if_pos (.inr hq)
  have ffo : ∀ a, a ≠ p → a ∉ L k → F' a = F a := fun a h1 h2 => if_neg (by rintro (z | z); exact h1 z; exact h2 z)
  have rep : en.rep F' (.ref p) s := fz F H F' (L k) p s k1 ff ffp ffl
  have others : ∀ (i : Nat) (q : Addr), i ≠ k → ad[i]? = some q → q ≠ p ∧ q ∉ L k := fun i q hi hq => ⟨fun z => by
    subst z
    have l1 := getElem?_some_of hq
    have l2 := getElem?_some_of hp
    rw [List.getElem?_eq_getElem l1] at hq
    rw [List.getElem?_eq_getElem l2] at hp
    exact hi ((List.getElem_inj S.nd).mp ((Option.some.inj hq).trans (Option.some.inj hp).symm)), fun z => (W.di k q z).1 (List.mem_of_getElem? hq)⟩
  refine ⟨F', S.f0.trans ff, fun a o h => ?_, S.gh, fun a h => ?_, S.nd, S.st, by simp [S.len], fun i s1 h => ?_, by simp [S.olen], fun i o h => ?_, ⟨fun i => if i = k then [] else L i, fun i q hq => ?_, fun i q hq i' hq' => ?_, fun i => ?_, fun i α' t' e' xs' h => ?_⟩⟩
  · have h : (if a = p ∨ a ∈ L k then H a else F a) = some o := h
    split at h
    · exact h
    · exact S.fh _ _ h
  · by_cases z : a = p ∨ a ∈ L k
    · rcases z with z | z
      · subst z; exact .inr k5
      · exact .inr (W.di k a z).2.2.1
    · refine S.fg a ?_
      have : F' a = F a := if_neg z
      rw [this] at h
      exact h
  · have h : (sp.sl.map (thawV k en s))[i]? = some s1 := h
    rw [List.getElem?_map] at h
    cases q : sp.sl[i]? with
    | none => rw [q] at h; cases h
    | some s0 =>
      rw [q] at h
      have e : thawV k en s s0 = s1 := Option.some.inj h
      subst e
      obtain ⟨o, g1, g2⟩ := S.sl i s0 q
      refine ⟨o, g1, ?_⟩
      cases s0 with
      | any => trivial
      | val e a => exact slOk.mono (s := .val e a) ff g2
      | bor e a => exact slOk.mono (s := .bor e a) ff g2
      | own j =>
        show slOk _ _ _ (match Nat.beq j k with
          | true => .val en s
          | false => .own j) _
        cases q : Nat.beq j k with
        | false => exact g2
        | true =>
          have e : j = k := Nat.eq_of_beq_eq_true q
          subst e
          obtain ⟨p', h1, h2⟩ := g2
          rw [hp] at h1
          have e : p = p' := Option.some.inj h1
          subst e
          exact ⟨.ref p, h2, rep⟩
  · have h : (sp.ob.set k .dead)[i]? = some o := h
    by_cases e : i = k
    · subst e
      rw [List.getElem?_set_self (getElem?_some_of ho)] at h
      cases h
      exact ⟨p, hp, trivial⟩
    · rw [List.getElem?_set_ne (Ne.symm e)] at h
      obtain ⟨p', g1, g2⟩ := S.ob i o h
      refine ⟨p', g1, ?_⟩
      obtain ⟨n1, n2⟩ := others i p' e g1
      cases o with
      | dead => trivial
      | pk _ _ _ => trivial
      | gen t' e' ys =>
        obtain ⟨us, z1, z2, z3, z4⟩ := g2
        exact ⟨us, z1, e'.mono ff z2, by rw [ffo p' n1 n2]; exact z3, z4⟩
      | lst t' e' ys =>
        obtain ⟨us, z1, zz, z2, z3, z4⟩ := g2
        exact ⟨us, z1, zz, z2.mono ff, by rw [ffo p' n1 n2]; exact z3, z4⟩
  · have hq : q ∈ (if i = k then [] else L i) := hq
    by_cases e : i = k
    · rw [if_pos e] at hq; cases hq
    · rw [if_neg e] at hq
      obtain ⟨a, b, c, d⟩ := W.di i q hq
      refine ⟨a, ?_, c, d⟩
      rw [ffo q (fun z => by subst z; exact a (List.mem_of_getElem? hp)) fun z => e (W.un i q hq k z).symm]
      exact b
  · have hq : q ∈ (if i = k then [] else L i) := hq
    have hq' : q ∈ (if i' = k then [] else L i') := hq'
    by_cases e : i = k
    · rw [if_pos e] at hq; cases hq
    · by_cases e' : i' = k
      · rw [if_pos e'] at hq'; cases hq'
      · rw [if_neg e] at hq
        rw [if_neg e'] at hq'
        exact W.un i q hq i' hq'
  · show (if i = k then [] else L i).Nodup
    split
    · exact List.nodup_nil
    · exact W.nd i
  · have h : (sp.ob.set k .dead)[i]? = some (.pk t' e' xs') := h
    by_cases e : i = k
    · subst e
      rw [List.getElem?_set_self (getElem?_some_of ho)] at h
      cases h
    · rw [List.getElem?_set_ne (Ne.symm e)] at h
      obtain ⟨p', h1, h2⟩ := W.ok i α' t' e' xs' h
      obtain ⟨n1, n2⟩ := others i p' e h1
      refine ⟨p', h1, ?_⟩
      show pkOk _ _ _ _ _ (if i = k then [] else L i) _ _
      rw [if_neg e]
      exact h2.go ff (fun _ _ _ z => z) (fun _ z => z) (by rw [ffo p' n1 n2]; exact h2.2.1)
theorem bj_frzPk {E : PkE X.K α} {en : Enc X.K α} {s : α} (fz : FzE E en) (ho : sp.ob[k]? = some (.pk t E s)) (hr : BJ X Z Qr D ⟨sp.sl.map (thawV k en s), sp.ob.set k .dead⟩ st' m) : BJ X Z Qr D sp st' m := fun F ad σ H S hm =>
  let ⟨F', S'⟩ := S.frzPk fz ho
  hr F' ad σ H S' hm
/-! ### as if it stayed, for a while -/
structure Fr {K : Frag} (sp sp' : Spec K) : Prop where
  go : ∀ (Z : Fz) (F : Hp) (ad : List Addr) (σ : Sg) (H : Hp), SOk Z F ad sp σ H → ∃ F', SOk Z F' ad sp' σ H ∧ Same F F'
theorem SOk.frz' {en : Enc X.K α} {xs : List α} (S : SOk Z F ad sp σ H) (ho : sp.ob[k]? = some (.lst t en xs)) : ∃ F', SOk Z F' ad ⟨sp.sl.map (thaw k en xs), sp.ob.set k .dead⟩ σ H ∧ Same F F' := by
  obtain ⟨zx, S1⟩ := S.fwd
  obtain ⟨F', S2⟩ := S1.frz ho
  exact ⟨F', S2.back zx, S2.f0⟩
theorem SOk.frzPk' {E : PkE X.K α} {en : Enc X.K α} {s : α} (fz : FzE E en) (S : SOk Z F ad sp σ H) (ho : sp.ob[k]? = some (.pk t E s)) : ∃ F', SOk Z F' ad ⟨sp.sl.map (thawV k en s), sp.ob.set k .dead⟩ σ H ∧ Same F F' := by
  obtain ⟨zx, S1⟩ := S.fwd
  obtain ⟨F', S2⟩ := S1.frzPk fz ho
  exact ⟨F', S2.back zx, S2.f0⟩
theorem fr_refl {K : Frag} {sp : Spec K} : Fr sp sp := ⟨fun Z F ad σ H S => ⟨F, S, Same.refl _⟩⟩
theorem fr_lst {sp' : Spec X.K} {en : Enc X.K α} {xs : List α} (k : Nat) (ho : sp.ob[k]? = some (.lst t en xs)) (r : Fr ⟨sp.sl.map (thaw k en xs), sp.ob.set k .dead⟩ sp') : Fr sp sp' := ⟨fun Z F ad σ H S => by
  obtain ⟨F1, S1, f1⟩ := S.frz' ho
  obtain ⟨F2, S2, f2⟩ := r.go Z F1 ad σ H S1
  exact ⟨F2, S2, f1.trans f2⟩⟩
theorem fr_pk {sp' : Spec X.K} {E : PkE X.K α} {en : Enc X.K α} {s : α} (k : Nat) (fz : FzE E en) (ho : sp.ob[k]? = some (.pk t E s)) (r : Fr ⟨sp.sl.map (thawV k en s), sp.ob.set k .dead⟩ sp') : Fr sp sp' := ⟨fun Z F ad σ H S => by
  obtain ⟨F1, S1, f1⟩ := S.frzPk' fz ho
  obtain ⟨F2, S2, f2⟩ := r.go Z F1 ad σ H S1
  exact ⟨F2, S2, f1.trans f2⟩⟩
/-- data that lies in no object -/
def PureE {K : Frag} (e : Enc K α) : Prop := ∀ F F' v a, e.rep F v a → e.rep F' v a
theorem puI {K : Frag} : PureE (eI (K := K)) := fun _ _ _ _ h => h
theorem puB {K : Frag} : PureE (eB (K := K)) := fun _ _ _ _ h => h
theorem puS {K : Frag} : PureE (eS (K := K)) := fun _ _ _ _ h => h
theorem puU {K : Frag} : PureE (eU (K := K)) := fun _ _ _ _ h => h
theorem puO {K : Frag} {e : Enc K α} (h : PureE e) : PureE (eO e) := fun F F' v a r => by
  cases a with
  | none => exact r
  | some a => exact h F F' v a r
theorem Nx.less {F1 : Hp} (n : Nx F1 H F' H') (f : Same F F1) (h : Same F H) : Nx F H F H' := ⟨Same.refl _, n.hh, h.trans n.hh, fun _ h => .inl h⟩
theorem tj_tmp {sp' : Spec X.K} {m : Res Bool} (fr : Fr sp sp') (h : TJ X Z sp' e m) : TJ X Z sp e m := fun F ad σ H Q S hm => by
  obtain ⟨F1, S1, f1⟩ := fr.go Z F ad σ H S
  exact h F1 ad σ H Q S1 (hm.imp fun b q F' H' n => q F H' (n.less f1 S.fh))
theorem ej_tmp {sp' : Spec X.K} {en : Enc X.K α} {m : Res α} (fr : Fr sp sp') (pu : PureE en) (h : EJ X Z sp' e m en) : EJ X Z sp e m en := fun F ad σ H Q S hm => by
  obtain ⟨F1, S1, f1⟩ := fr.go Z F ad σ H S
  exact h F1 ad σ H Q S1 (hm.imp fun b q F' H' v n r => q F H' v (n.less f1 S.fh) (pu _ _ _ _ r))
theorem fj_tmp {sp' : Spec X.K} {en : Enc X.K α} {m : Res (List α)} (fr : Fr sp sp') (pu : PureE en) (h : FJ X Z sp' e m en) : FJ X Z sp e m en := fun F ad σ H Q S hm => by
  obtain ⟨F1, S1, f1⟩ := fr.go Z F ad σ H S
  refine h F1 ad σ H Q S1 (hm.imp fun b q F' H' p vs n h1 h2 h3 hz r => q F H' p vs (n.less f1 S.fh) h1 ?_ h3 hz (Paired.imp (fun v a z => pu _ _ _ _ z) r))
  cases e : F p with
  | none => rfl
  | some o => rw [S.fh _ _ e] at h1; cases h1
end
end Wk

set_option Elab.async false
set_option linter.all false
set_option maxRecDepth 100000
set_option maxHeartbeats 4000000
namespace Wk
open PySem PySem.Spec PyProof.Rows L2
section
variable {X : Cx} {Z : Fz} {sp : Spec X.K} {a b c e : Expr} {es : List Expr} {pos p p2 fp : Pos} {α β γ δ ρ θ : Type} {k j : Nat} {x : Str} {F F' H H' : Hp} {ad : List Addr} {σ : Sg} {Qr : ρ → Prop} {D : Ends} {st : Stmt} {st' rest body : List Stmt} {m : Res ρ} {t : Option Addr} {tg it : Expr}
/-! ### the fields, read -/
/-- an expression that gives the i-th field of what stands at o -/
def PJ (X : Cx) (Z : Fz) (sp : Spec X.K) (e : Expr) (sh : Sh) (o i : Nat) : Prop :=
  ∀ (F : Hp) (ad : List Addr) (σ : Sg) (H : Hp) (Q : VK), SOk Z F ad sp σ H → (∀ q0 hd vs, ad[o]? = some q0 → H q0 = some hd → sh.is hd vs → ∃ v, vs[i]? = some v ∧ Q v H) → (∃ q0 hd vs, ad[o]? = some q0 ∧ H q0 = some hd ∧ sh.is hd vs) → wE X e σ H Q
theorem pj_tup {i o : Nat} (n : Nat) {jj : Nat} (hs : sp.sl[i]? = some (.own o) := by rfl) (hN : X.N[i]? = some x := by rfl)
    (hv : Vis X.env.scope x := by first | exact Or.inl rfl | exact Or.inr (Or.inl rfl) | exact Or.inr (Or.inr rfl)) (hd : (x == ("__debug__" : Str)) = false := by decide) (hcd : (x == ("__classdict__" : Str)) = false := by decide) :
    PJ X Z sp (.Subscript (.Name x p) (.Constant (.int (n : Int)) jj p2) pos) .tup o n := fun F ad σ H Q S q w => by
  refine ofE (pe_ix ix_tup (pe_var (i := i) hN hv hd hcd) pe_int fun _ _ => rfl) ?_
  obtain ⟨o', h1, q0, h2, h3⟩ := S.sl i _ hs
  obtain ⟨q1, hd, vs, w1, w2, w3⟩ := w
  rw [h2] at w1
  cases w1
  obtain ⟨v, k1, k2⟩ := q q0 hd vs h2 w2 w3
  have w3 : hd = .tup vs := w3
  subst w3
  exact ⟨.ref q0, by rw [h1, h3], q0, vs, n, v, rfl, rfl, SqT.of w2, atI_nat k1, k2⟩
theorem pj_lst {i o : Nat} (n : Nat) {jj : Nat} (hs : sp.sl[i]? = some (.own o) := by rfl) (hN : X.N[i]? = some x := by rfl)
    (hv : Vis X.env.scope x := by first | exact Or.inl rfl | exact Or.inr (Or.inl rfl) | exact Or.inr (Or.inr rfl)) (hd : (x == ("__debug__" : Str)) = false := by decide) (hcd : (x == ("__classdict__" : Str)) = false := by decide) :
    PJ X Z sp (.Subscript (.Name x p) (.Constant (.int (n : Int)) jj p2) pos) .lst o n := fun F ad σ H Q S q w => by
  refine ofE (pe_ix ix_list (pe_var (i := i) hN hv hd hcd) pe_int fun _ _ => rfl) ?_
  obtain ⟨o', h1, q0, h2, h3⟩ := S.sl i _ hs
  obtain ⟨q1, hd, vs, w1, w2, w3⟩ := w
  rw [h2] at w1
  cases w1
  obtain ⟨v, k1, k2⟩ := q q0 hd vs h2 w2 w3
  have w3 : hd = .lst vs := w3
  subst w3
  exact ⟨.ref q0, by rw [h1, h3], q0, vs, n, v, rfl, rfl, SqL.of w2, atI_nat k1, k2⟩
/-- what is needed of a class, to read and store a field -/
structure FldOk (K : Frag) (C : Addr) (f : Str) : Prop where
  cl : Cls K C
  na : NoAttr K C f
theorem lookup_zip {ns : List Str} {vs : List V} : ∀ {i : Nat} {f : Str} {v : V}, ns.Nodup → ns[i]? = some f → vs[i]? = some v → (ns.zip vs).lookup f = some v := by
  induction ns generalizing vs with
  | nil => intro i f v _ h; simp at h
  | cons n ns ih =>
    intro i f v nd h1 h2
    cases vs with
    | nil => simp at h2
    | cons w vs =>
      rw [List.nodup_cons] at nd
      cases i with
      | zero =>
        simp at h1 h2
        subst h1 h2
        simp [List.lookup_cons]
      | succ i =>
        have h1' : ns[i]? = some f := by simpa using h1
        have hne : (f == n) = false := by
          rw [beq_eq_false_iff_ne]
          rintro rfl
          exact nd.1 (List.mem_of_getElem? h1')
        rw [List.zip_cons_cons, List.lookup_cons, hne]
        exact ih nd.2 h1' (by simpa using h2)
theorem pj_fld {i o n : Nat} {C : Addr} {ns : List Str} {f : Str} (fo : FldOk X.K C f) (hs : sp.sl[i]? = some (.own o) := by rfl) (hn : ns[n]? = some f := by rfl) (hN : X.N[i]? = some x := by rfl) (nd : ns.Nodup := by decide)
    (hv : Vis X.env.scope x := by first | exact Or.inl rfl | exact Or.inr (Or.inl rfl) | exact Or.inr (Or.inr rfl)) (hd : (x == ("__debug__" : Str)) = false := by decide) (hcd : (x == ("__classdict__" : Str)) = false := by decide)
    (hb : attributeBase (.Name x p) f X.env (eval (.Name x p) X.env) = eval (.Name x p) X.env := by rfl) :
    PJ X Z sp (.Attribute (.Name x p) f pos) (.ins C ns) o n := fun F ad σ H Q S q w => by
  refine ofE (pe_fld (pe_var (i := i) hN hv hd hcd) hb) ?_
  obtain ⟨o', h1, q0, h2, h3⟩ := S.sl i _ hs
  obtain ⟨q1, hd, vs, w1, w2, w3⟩ := w
  rw [h2] at w1
  cases w1
  obtain ⟨v, k1, k2⟩ := q q0 hd vs h2 w2 w3
  obtain ⟨wl, dx, w3⟩ := w3
  subst w3
  exact ⟨.ref q0, by rw [h1, h3], q0, C, dx, _, v, rfl, w2, fo.cl, fo.na, lookup_zip nd hn k1, k2⟩
variable {sh : Sh} {o i : Nat} {vw : Vw X.K γ} {s : γ}
theorem PJ.run (h : PJ X Z sp e sh o i) (ho : sp.ob[o]? = some (.pk t (pkI sh vw) s)) {f : Fd X.K} (hf : (vw s)[i]? = some f) {Q : VK} (S : SOk Z F ad sp σ H)
    (q : ∀ q0 L hd vs v, ad[o]? = some q0 → LfW Z.G F H ad sp.ob L → H q0 = some hd → sh.is hd vs → FdOk F H (vw s) vs (L o) → F q0 = none → Z.G q0 = none → (∀ q, t = some q → q0 = q) → vs[i]? = some v → Q v H) : wE X e σ H Q := by
  obtain ⟨q0, L, h1, W, ⟨hd, vs, k1, k2, k3⟩, k4, k5, k6⟩ := S.pk ho
  have ⟨v, hv⟩ := k3.st (q := q0) hf
  refine h F ad σ H Q S (fun q1 hd1 vs1 g1 g2 g3 => ?_) ⟨q0, hd, vs, h1, k1, k2⟩
  rw [h1] at g1
  cases g1
  rw [k1] at g2
  cases g2
  have ev : vs1 = vs := by
    cases sh with
    | tup => exact HO.tup.inj (g3.symm.trans k2)
    | lst => exact HO.lst.inj (g3.symm.trans k2)
    | ins C ns =>
      obtain ⟨l1, dx, e1⟩ := g3
      obtain ⟨l2, dx2, e2⟩ := k2
      have e := (HO.ins.inj (e1.symm.trans e2)).2.2
      have u1 : (ns.zip vs1).map Prod.snd = vs1 := by rw [List.map_snd_zip (by omega)]
      have u2 : (ns.zip vs).map Prod.snd = vs := by rw [List.map_snd_zip (by omega)]
      rw [← u1, e, u2]
  subst ev
  exact ⟨v, hv, q q0 L hd vs1 v h1 W k1 k2 k3 k4 k5 k6 hv⟩
theorem lj_pj {en : Enc X.K α} {xs : List α} (h : PJ X Z sp e sh o i) (ho : sp.ob[o]? = some (.pk t (pkI sh vw) s) := by rfl) (hf : (vw s)[i]? = some (.lst en xs) := by rfl) : LJ X Z sp e (.ok xs) en := fun F ad σ H Q S hm => by
  refine h.run ho hf S fun q0 L hd vs v h1 W k1 k2 k3 k4 k5 k6 hv => ?_
  obtain ⟨q, o', g1, g2, g3, us, g4, g5, g6⟩ := k3.one_at hf
  rw [hv] at g1
  cases g1
  subst g4
  exact hm F H q us S.refl (SqL.of g3) g5 g6
theorem ej_pj {en : Enc X.K α} {v : α} (h : PJ X Z sp e sh o i) (ho : sp.ob[o]? = some (.pk t (pkI sh vw) s) := by rfl) (hf : (vw s)[i]? = some (.val en v) := by rfl) : EJ X Z sp e (.ok v) en := fun F ad σ H Q S hm => by
  refine h.run ho hf S fun q0 L hd vs u h1 W k1 k2 k3 k4 k5 k6 hv => ?_
  obtain ⟨w, g1, g2⟩ := k3.val_at hf
  rw [hv] at g1
  cases g1
  exact hm F H u S.refl g2
/-! ### the fields, changed -/
/-- the list at a field: where it stands, and how it may be changed -/
theorem PJ.own {en : Enc X.K α} {xs : List α} (h : PJ X Z sp e sh o i) (ho : sp.ob[o]? = some (.pk t (pkI sh vw) s)) (hf : (vw s)[i]? = some (.lst en xs)) {Q : VK} (S : SOk Z F ad sp σ H)
    (q : ∀ q us, H q = some (.lst us) → us.length ≤ sizeLine → Reps en F us xs → F q = none →
      (∀ {F2 H2 : Hp} {σ2 : Sg} {sl2 : List (Sl X.K)} {us' : List V} {xs' : List α} (s' : γ), Nx F H F2 H2 → SOk Z F2 ad ⟨sl2, sp.ob⟩ σ2 H2 → us'.length ≤ sizeLine → Reps en F2 us' xs' → vw s' = (vw s).set i (.lst en xs') → SOk Z F2 ad ⟨sl2, sp.ob.set o (.pk t (pkI sh vw) s')⟩ σ2 (L2.upd H2 q (.lst us'))) → Q (.ref q) H) : wE X e σ H Q := by
  refine h.run ho hf S fun q0 L hd vs v h1 W k1 k2 k3 k4 k5 k6 hv => ?_
  obtain ⟨a, o', g1, g2, g3, us, g4, g5, g6⟩ := k3.one_at hf
  rw [hv] at g1
  cases g1
  subst g4
  obtain ⟨d1, d2, d3, d4⟩ := W.di o a g2
  have ne : q0 ≠ a := fun z => d1 (z ▸ List.mem_of_getElem? h1)
  refine q a us g3 g5 g6 d2 fun {F2 H2 σ2 sl2 us' xs'} s' n S2 hz r hs' => ?_
  have W2 := W.nx n
  have k3' := k3.go n.ff fun q _ => n.hh q
  have f2 := n.non k4 (by rw [k1]; exact fun z => nomatch z)
  refine SOk.pkset (sp := ⟨sl2, sp.ob⟩) (L := L) (l' := L o) S2 W2 h1 f2 k5 (getElem?_some_of ho) (fun b hb hb2 => upd_ne fun z => hb2 (z ▸ g2)) (fun b hb => ?_) (W.nd o) ⟨⟨hd, vs, ?_, k2, ?_⟩, f2, k5, k6⟩
  · obtain ⟨e1, e2, e3, e4⟩ := W2.di o b hb
    refine ⟨e2, e3, e1, ?_, fun k hk z => hk (W.un o b hb k z)⟩
    by_cases z : b = a
    · rw [z, upd_same]; exact fun z => nomatch z
    · rw [upd_ne z]; exact e4
  · rw [upd_ne ne]; exact n.hh _ _ k1
  · rw [hs']
    exact k3'.set_one (e' := lstE en) (b := xs') (fun x hx => upd_ne hx) upd_same ⟨us', rfl, hz, r⟩ (W.nd o) hf hv
theorem bj_appP {en : Enc X.K α} {me : Res α} {kk : List α → Res ρ} {xs : List α} {pe : Expr} {apos cpos : Pos} (s' : List α → γ) (h0 : PJ X Z sp pe sh o i) (ho : sp.ob[o]? = some (.pk t (pkI sh vw) s)) (hf : (vw s)[i]? = some (.lst en xs)) (h : EJ X Z sp e me en)
    (hs' : ∀ v, vw (s' v) = (vw s).set i (.lst en v)) (hr : ∀ v, BJ X Z Qr D ⟨sp.sl, sp.ob.set o (.pk t (pkI sh vw) (s' v))⟩ rest (kk v)) (hn : nst e = true := by rfl)
    (hline : (apos.endLine == cpos.line) = true := by rfl)
    (hbase : attributeBase pe "append" X.env (eval pe X.env) = eval pe X.env := by rfl)
    (hw : swapsWith (.Call (.Attribute pe "append" apos) [e] [] cpos) none pos.line X.env = pure false := by rfl) :
    BJ X Z Qr D sp (.Expr (.Call (.Attribute pe "append" apos) [e] [] cpos) pos :: rest) (me.bi fun y => (appM xs y).bi kk) := fun F ad σ H S hm => by
  refine seq (ofS (ps_expr (pe_bm PySem.F.plainAttrs_list PySem.F.slot_list_append PySem.F.type_list_append mt_append pe_w (pa_cons pe_w pa_nil (star_cons hn)) hbase (by rw [star_cons hn]; rfl) hline (star_cons hn) rfl) hw) ?_)
  refine h0.own ho hf S fun q us h3 hz h4 h5 put => ?_
  refine ⟨tyV_own h3, ?_⟩
  refine h F ad σ H _ S (hm.bi.imp fun y g F1 H1 u n r => ?_)
  obtain ⟨c, g⟩ := g.bi.gd
  have hl : us.length < sizeLine := by rw [h4.length]; exact c
  refine ⟨q, us, u, rfl, rfl, n.hh _ _ h3, hl, ?_⟩
  exact hr _ F1 ad σ _ (put (s' (xs ++ [y])) n (S.nx n) (by rw [List.length_append]; exact hl) ((h4.mono n.ff).snoc r) (hs' _)) g
theorem bj_appP_p {en : Enc X.K α} {y : α} {kk : List α → Res ρ} {xs : List α} {pe : Expr} {apos cpos : Pos} (s' : List α → γ) (h0 : PJ X Z sp pe sh o i) (ho : sp.ob[o]? = some (.pk t (pkI sh vw) s)) (hf : (vw s)[i]? = some (.lst en xs)) (h : EJ X Z sp e (.ok y) en)
    (hs' : ∀ v, vw (s' v) = (vw s).set i (.lst en v)) (hr : ∀ v, BJ X Z Qr D ⟨sp.sl, sp.ob.set o (.pk t (pkI sh vw) (s' v))⟩ rest (kk v)) (hn : nst e = true := by rfl)
    (hline : (apos.endLine == cpos.line) = true := by rfl)
    (hbase : attributeBase pe "append" X.env (eval pe X.env) = eval pe X.env := by rfl)
    (hw : swapsWith (.Call (.Attribute pe "append" apos) [e] [] cpos) none pos.line X.env = pure false := by rfl) :
    BJ X Z Qr D sp (.Expr (.Call (.Attribute pe "append" apos) [e] [] cpos) pos :: rest) ((appM xs y).bi kk) := bj_appP s' h0 ho hf h hs' hr hn hline hbase hw
theorem bj_clearP {en : Enc X.K α} {xs : List α} {pe : Expr} {apos cpos : Pos} (s' : γ) (h0 : PJ X Z sp pe sh o i) (ho : sp.ob[o]? = some (.pk t (pkI sh vw) s)) (hf : (vw s)[i]? = some (.lst en xs))
    (hs' : vw s' = (vw s).set i (.lst en [])) (hr : BJ X Z Qr D ⟨sp.sl, sp.ob.set o (.pk t (pkI sh vw) s')⟩ rest m)
    (hline : (apos.endLine == cpos.line) = true := by rfl)
    (hbase : attributeBase pe "clear" X.env (eval pe X.env) = eval pe X.env := by rfl)
    (hw : swapsWith (.Call (.Attribute pe "clear" apos) [] [] cpos) none pos.line X.env = pure false := by rfl) :
    BJ X Z Qr D sp (.Expr (.Call (.Attribute pe "clear" apos) [] [] cpos) pos :: rest) m := fun F ad σ H S hm => by
  refine seq (ofS (ps_expr (pe_bm0 PySem.F.plainAttrs_list PySem.F.slot_list_clear PySem.F.type_list_clear mt_clear pe_w hbase hline) hw) ?_)
  refine h0.own ho hf S fun q us h3 hz h4 h5 put => ?_
  refine ⟨tyV_own h3, q, us, rfl, rfl, h3, ?_⟩
  exact hr F ad σ _ (put s' S.refl S (Nat.zero_le _) .nil hs') hm
theorem bj_setiP {en : Enc X.K α} {me : Res α} {mi : Res Int} {kk : List α → Res ρ} {xs : List α} {pe ie : Expr} {spos : Pos} (s' : List α → γ) (h0 : PJ X Z sp pe sh o i) (ho : sp.ob[o]? = some (.pk t (pkI sh vw) s)) (hf : (vw s)[i]? = some (.lst en xs)) (h : EJ X Z sp e me en) (hi : EJ X Z sp ie mi eI)
    (hs' : ∀ v, vw (s' v) = (vw s).set i (.lst en v)) (hr : ∀ v, BJ X Z Qr D ⟨sp.sl, sp.ob.set o (.pk t (pkI sh vw) (s' v))⟩ rest (kk v))
    (ha : ∀ v, assign (.Subscript pe ie spos) X.env v = (do
      let ov ← holding [v] (eval pe X.env)
      let iv ← holding [v, ov] (eval ie X.env)
      standAt spos
      holding [v, ov, iv] (setItem ov iv v)
      release [v, ov, iv] []) := by intro _; rfl)
    (h2 : swapsWithSole [.Subscript pe ie spos] e pos.line X.env = pure false := by rfl) (hw : swappedStores [.Subscript pe ie spos] e X.env = pure none := by rfl) (h1 : (assignEach [.Subscript pe ie spos] X.env).map (·.2) = [assign (.Subscript pe ie spos) X.env] := by rfl) :
    BJ X Z Qr D sp (.Assign [.Subscript pe ie spos] e pos :: rest) (me.bi fun y => mi.bi fun j => (seti xs j y).bi kk) := fun F ad σ H S hm => by
  refine seq (ofS (ps_asg pe_w (pg_sub pe_w pe_w set_list ha) h2 hw h1) ?_)
  refine h F ad σ H _ S (hm.bi.imp fun y g F1 H1 u n1 r1 => ?_)
  have S1 := S.nx n1
  refine h0.own ho hf S1 fun q us h3 hz h4 h5 put => ?_
  refine hi F1 ad σ H1 _ S1 (g.bi.imp fun j g F2 H2 w n2 r2 => ?_)
  unfold seti at g
  cases ej : ixN xs.length j with
  | none => rw [ej] at g; exact g.elim
  | some t =>
    rw [ej] at g
    refine ⟨q, us, j, t, rfl, r2, n2.hh _ _ h3, by rw [h4.length]; exact ej, ?_⟩
    exact hr _ F2 ad σ _ (put (s' (xs.set t y)) n2 (S1.nx n2) (by rw [List.length_set]; exact hz) ((h4.mono n2.ff).set (en.mono n2.ff r1) t) (hs' _)) g
theorem bj_setiP_p {en : Enc X.K α} {y : α} {jj : Int} {kk : List α → Res ρ} {xs : List α} {pe ie : Expr} {spos : Pos} (s' : List α → γ) (h0 : PJ X Z sp pe sh o i) (ho : sp.ob[o]? = some (.pk t (pkI sh vw) s)) (hf : (vw s)[i]? = some (.lst en xs)) (h : EJ X Z sp e (.ok y) en) (hi : EJ X Z sp ie (.ok jj) eI)
    (hs' : ∀ v, vw (s' v) = (vw s).set i (.lst en v)) (hr : ∀ v, BJ X Z Qr D ⟨sp.sl, sp.ob.set o (.pk t (pkI sh vw) (s' v))⟩ rest (kk v))
    (ha : ∀ v, assign (.Subscript pe ie spos) X.env v = (do
      let ov ← holding [v] (eval pe X.env)
      let iv ← holding [v, ov] (eval ie X.env)
      standAt spos
      holding [v, ov, iv] (setItem ov iv v)
      release [v, ov, iv] []) := by intro _; rfl)
    (h2 : swapsWithSole [.Subscript pe ie spos] e pos.line X.env = pure false := by rfl) (hw : swappedStores [.Subscript pe ie spos] e X.env = pure none := by rfl) (h1 : (assignEach [.Subscript pe ie spos] X.env).map (·.2) = [assign (.Subscript pe ie spos) X.env] := by rfl) :
    BJ X Z Qr D sp (.Assign [.Subscript pe ie spos] e pos :: rest) ((seti xs jj y).bi kk) := bj_setiP s' h0 ho hf h hi hs' hr ha h2 hw h1
/-- what comes next is another object, or a value: x[c] = e of a list of things -/
theorem pkput {q0 : Addr} {L : Nat → List Addr} {hd' : HO} {vs' : List V} {s' : γ} {l' : List Addr} (S : SOk Z F ad sp σ H) (W : LfW Z.G F H ad sp.ob L) (hol : o < sp.ob.length) (h1 : ad[o]? = some q0) (k4 : F q0 = none) (k5 : Z.G q0 = none) (k6 : ∀ q, t = some q → q0 = q)
    (hk : sh.is hd' vs') (hfd : FdOk F H (vw s') vs' l') (nd : l'.Nodup) (hl : ∀ q ∈ l', q ∈ L o ∨ (F q = none ∧ Z.G q = none ∧ q ∉ ad ∧ H q ≠ none ∧ ∀ k, q ∉ L k)) : SOk Z F ad ⟨sp.sl, sp.ob.set o (.pk t (pkI sh vw) s')⟩ σ (L2.upd H q0 hd') := by
  have nq : ∀ q ∈ l', q ≠ q0 := fun q hq z => by
    rcases hl q hq with y | ⟨_, _, y, _⟩
    · exact (W.di o q y).1 (z ▸ List.mem_of_getElem? h1)
    · exact y (z ▸ List.mem_of_getElem? h1)
  refine S.pkset (L := L) (l' := l') W h1 k4 k5 hol (fun b hb _ => upd_ne hb) (fun b hb => ?_) nd ⟨⟨hd', vs', upd_same, hk, hfd.go (Same.refl _) fun q hq o z => by rw [upd_ne (nq q hq)]; exact z⟩, k4, k5, k6⟩
  rw [upd_ne (nq b hb)]
  rcases hl b hb with y | ⟨y1, y2, y3, y4, y5⟩
  · obtain ⟨e1, e2, e3, e4⟩ := W.di o b y
    exact ⟨e2, e3, e1, e4, fun k hk z => hk (W.un o b y k z)⟩
  · exact ⟨y1, y2, y3, y4, fun k _ => y5 k⟩
end
end Wk

set_option Elab.async false
set_option linter.all false
set_option maxRecDepth 100000
set_option maxHeartbeats 4000000
namespace Wk
open PySem PySem.Spec PyProof.Rows L2
/-- a thing handed back, all of it new -/
def rtP {K : Frag} {ρ : Type} (E : PkE K ρ) : RtE ρ := fun G F' H' v r => ∃ p l, v = .ref p ∧ E.rep F' H' l p r ∧ (p :: l).Nodup ∧ ∀ q ∈ p :: l, G q = none ∧ F' q = none ∧ H' q ≠ none
section
variable {X : Cx} {Z : Fz} {sp : Spec X.K} {a b c e : Expr} {es : List Expr} {pos p p2 fp : Pos} {α β γ δ ρ θ : Type} {k j : Nat} {x : Str} {F F' H H' : Hp} {ad : List Addr} {σ : Sg} {Qr : ρ → Prop} {D : Ends} {st : Stmt} {st' rest body : List Stmt} {m : Res ρ} {t : Option Addr} {tg it : Expr}
/-! ### such things, made -/
def NJ (X : Cx) (Z : Fz) (sp : Spec X.K) (es : List Expr) {γ : Type} (m : Res γ) (vw : Vw X.K γ) (ks : List Nat) : Prop :=
  ∀ (F : Hp) (ad : List Addr) (σ : Sg) (H : Hp) (Q : List V → Hp → Prop), SOk Z F ad sp σ H → mwp m (fun g => ∀ F' H' vs l, Nx F H F' H' → FdOk F' H' (vw g) vs l → l.Nodup → (∀ q ∈ l, ((∃ k ∈ ks, ad[k]? = some q) ∨ H q = none) ∧ F' q = none ∧ Z.G q = none ∧ H' q ≠ none) → vs.length = es.length → Q vs H') Z.Er → wA X es σ H Q
/-- an expression that gives such a thing -/
def MPJ (X : Cx) (Z : Fz) (sp : Spec X.K) (e : Expr) {γ : Type} (m : Res γ) (E : PkE X.K γ) (ks : List Nat) : Prop :=
  ∀ (F : Hp) (ad : List Addr) (σ : Sg) (H : Hp) (Q : VK), SOk Z F ad sp σ H → mwp m (fun s => ∀ F' H' p l, Nx F H F' H' → E.rep F' H' l p s → (p :: l).Nodup → H p = none → (∀ q ∈ p :: l, ((∃ k ∈ ks, ad[k]? = some q) ∨ H q = none) ∧ F' q = none ∧ Z.G q = none ∧ H' q ≠ none) → Q (.ref p) H') Z.Er → wE X e σ H Q
theorem ks_back {ks : List Nat} {H1 : Hp} {q : Addr} (hh : Same H H1) (h : (∃ k ∈ ks, ad[k]? = some q) ∨ H1 q = none) : (∃ k ∈ ks, ad[k]? = some q) ∨ H q = none := h.imp id fun z => hh.free z
theorem nj_v1 {en : Enc X.K α} {m : Res α} (h : EJ X Z sp e m en) (hn : nst e = true := by rfl) : NJ X Z sp [e] m (vw1 (fV en)) [] := fun F ad σ H Q S hm => by
  refine ofA (pa_cons pe_w pa_nil (star_cons hn)) (h F ad σ H _ S (hm.imp fun x q F1 H1 v n r => ?_))
  exact q F1 H1 [v] [] n (.val r .nil) List.nodup_nil (fun _ h => nomatch h) rfl
theorem nj_vC {en : Enc X.K α} {m : Res α} {mr : Res γ} {vw : Vw X.K γ} {ks : List Nat} (h : EJ X Z sp e m en) (hr : NJ X Z sp es mr vw ks) (hn : nst e = true := by rfl) : NJ X Z sp (e :: es) (m.bi fun x => mr.bi fun g => .ok (x, g)) (vwC (fV en) vw) ks := fun F ad σ H Q S hm => by
  refine ofA (pa_cons pe_w pa_w (star_cons hn)) (h F ad σ H _ S (hm.bi.imp fun x q F1 H1 v n r => ?_))
  refine hr F1 ad σ H1 _ (S.nx n) (q.bi.imp fun g q F2 H2 vs l n2 r2 nd hl hlen => ?_)
  exact q F2 H2 (v :: vs) l (n.trans n2) (.val (en.mono n2.ff r) r2) nd (fun q hq => ⟨ks_back n.hh (hl q hq).1, (hl q hq).2⟩) (by rw [List.length_cons, List.length_cons, hlen])
theorem nj_n1 {en : Enc X.K α} {m : Res (List α)} (h : FJ X Z sp e m en) (hn : nst e = true := by rfl) : NJ X Z sp [e] m (vw1 (fL en)) [] := fun F ad σ H Q S hm => by
  refine ofA (pa_cons pe_w pa_nil (star_cons hn)) (h F ad σ H _ S (hm.imp fun x q F1 H1 p vs n h1 h2 h3 hz r => ?_))
  refine q F1 H1 [.ref p] [p] n (.one h3 ⟨vs, rfl, hz, r⟩ .nil) (by simp) (fun y hy => ?_) rfl
  rw [List.mem_singleton] at hy
  subst hy
  exact ⟨.inr h1, h2, S.gh.free h1, by rw [h3]; exact fun z => nomatch z⟩
theorem nj_nC {en : Enc X.K α} {m : Res (List α)} {mr : Res γ} {vw : Vw X.K γ} {ks : List Nat} (h : FJ X Z sp e m en) (hr : NJ X Z sp es mr vw ks) (hn : nst e = true := by rfl) : NJ X Z sp (e :: es) (m.bi fun x => mr.bi fun g => .ok (x, g)) (vwC (fL en) vw) ks := fun F ad σ H Q S hm => by
  refine ofA (pa_cons pe_w pa_w (star_cons hn)) (h F ad σ H _ S (hm.bi.imp fun x q F1 H1 p us n h1 h2 h3 hz r => ?_))
  refine hr F1 ad σ H1 _ (S.nx n) (q.bi.imp fun g q F2 H2 vs l n2 r2 nd hl hlen => ?_)
  have hne : H1 p ≠ none := by rw [h3]; exact fun z => nomatch z
  have hnot : p ∉ l := fun z => by
    rcases (hl p z).1 with ⟨k, _, y⟩ | y
    · exact S.st p (List.mem_of_getElem? y) h1
    · exact hne y
  refine q F2 H2 (.ref p :: vs) (p :: l) (n.trans n2) (.one (n2.hh _ _ h3) ⟨us, rfl, hz, r.mono n2.ff⟩ r2) (List.nodup_cons.mpr ⟨hnot, nd⟩) (fun y hy => ?_) (by rw [List.length_cons, List.length_cons, hlen])
  rcases List.mem_cons.mp hy with rfl | hy
  · exact ⟨.inr h1, n2.non h2 hne, S.gh.free h1, fun z => hne (n2.hh.free z)⟩
  · exact ⟨ks_back n.hh (hl y hy).1, (hl y hy).2⟩
theorem nj_o1 {en : Enc X.K α} {xs : List α} {i : Nat} (hs : sp.sl[i]? = some (.own k) := by rfl) (ho : sp.ob[k]? = some (.lst t en xs) := by rfl) (hN : X.N[i]? = some x := by rfl)
    (hv : Vis X.env.scope x := by first | exact Or.inl rfl | exact Or.inr (Or.inl rfl) | exact Or.inr (Or.inr rfl)) (hd : (x == ("__debug__" : Str)) = false := by decide) (hcd : (x == ("__classdict__" : Str)) = false := by decide) :
    NJ X Z sp [.Name x pos] (.ok xs) (vw1 (fL en)) [k] := fun F ad σ H Q S hm => by
  refine ofA (pa_cons (pe_var (i := i) hN hv hd hcd) pa_nil (star_cons rfl)) ?_
  obtain ⟨q0, vs, h1, h2, h3, hz, h4, h5, h6, _⟩ := S.own hs ho
  refine ⟨.ref q0, h1, hm F H [.ref q0] [q0] S.refl (.one h3 ⟨vs, rfl, hz, h4⟩ .nil) (by simp) (fun y hy => ?_) rfl⟩
  rw [List.mem_singleton] at hy
  subst hy
  exact ⟨.inl ⟨k, by simp, h2⟩, h5, h6, by rw [h3]; exact fun z => nomatch z⟩
theorem nj_oC {en : Enc X.K α} {xs : List α} {i : Nat} {mr : Res γ} {vw : Vw X.K γ} {ks : List Nat} (hr : NJ X Z sp es mr vw ks) (hk : k ∉ ks) (hs : sp.sl[i]? = some (.own k) := by rfl) (ho : sp.ob[k]? = some (.lst t en xs) := by rfl) (hN : X.N[i]? = some x := by rfl)
    (hv : Vis X.env.scope x := by first | exact Or.inl rfl | exact Or.inr (Or.inl rfl) | exact Or.inr (Or.inr rfl)) (hd : (x == ("__debug__" : Str)) = false := by decide) (hcd : (x == ("__classdict__" : Str)) = false := by decide) :
    NJ X Z sp (.Name x pos :: es) (mr.bi fun g => .ok (xs, g)) (vwC (fL en) vw) (k :: ks) := fun F ad σ H Q S hm => by
  refine ofA (pa_cons (pe_var (i := i) hN hv hd hcd) pa_w (star_cons rfl)) ?_
  obtain ⟨q0, us, h1, h2, h3, hz, h4, h5, h6, _⟩ := S.own hs ho
  refine ⟨.ref q0, h1, hr F ad σ H _ S (hm.bi.imp fun g q F2 H2 vs l n2 r2 nd hl hlen => ?_)⟩
  have hne : H q0 ≠ none := by rw [h3]; exact fun z => nomatch z
  have hnot : q0 ∉ l := fun z => by
    rcases (hl q0 z).1 with ⟨k', m, y⟩ | y
    · have l1 := getElem?_some_of h2
      have l2 := getElem?_some_of y
      rw [List.getElem?_eq_getElem l1] at h2
      rw [List.getElem?_eq_getElem l2] at y
      have e2 : k' = k := (List.getElem_inj S.nd).mp ((Option.some.inj y).trans (Option.some.inj h2).symm)
      exact hk (e2 ▸ m)
    · exact hne y
  refine q F2 H2 (.ref q0 :: vs) (q0 :: l) n2 (.one (n2.hh _ _ h3) ⟨us, rfl, hz, h4.mono n2.ff⟩ r2) (List.nodup_cons.mpr ⟨hnot, nd⟩) (fun y hy => ?_) (by rw [List.length_cons, List.length_cons, hlen])
  rcases List.mem_cons.mp hy with rfl | hy
  · exact ⟨.inl ⟨k, List.mem_cons_self .., h2⟩, n2.non h5 hne, h6, fun z => hne (n2.hh.free z)⟩
  · exact ⟨(hl y hy).1.imp (fun ⟨k', m, z⟩ => ⟨k', List.mem_cons_of_mem _ m, z⟩) id, (hl y hy).2⟩
theorem nj_vC_p {en : Enc X.K α} {v : α} {g : γ} {vw : Vw X.K γ} {ks : List Nat} (h : EJ X Z sp e (.ok v) en) (hr : NJ X Z sp es (.ok g) vw ks) (hn : nst e = true := by rfl) : NJ X Z sp (e :: es) (.ok (v, g)) (vwC (fV en) vw) ks := nj_vC h hr hn
theorem nj_nC_p {en : Enc X.K α} {v : List α} {g : γ} {vw : Vw X.K γ} {ks : List Nat} (h : FJ X Z sp e (.ok v) en) (hr : NJ X Z sp es (.ok g) vw ks) (hn : nst e = true := by rfl) : NJ X Z sp (e :: es) (.ok (v, g)) (vwC (fL en) vw) ks := nj_nC h hr hn
theorem nj_oC_p {en : Enc X.K α} {xs : List α} {i : Nat} {g : γ} {vw : Vw X.K γ} {ks : List Nat} (hr : NJ X Z sp es (.ok g) vw ks) (hk : k ∉ ks) (hs : sp.sl[i]? = some (.own k) := by rfl) (ho : sp.ob[k]? = some (.lst t en xs) := by rfl) (hN : X.N[i]? = some x := by rfl)
    (hv : Vis X.env.scope x := by first | exact Or.inl rfl | exact Or.inr (Or.inl rfl) | exact Or.inr (Or.inr rfl)) (hd : (x == ("__debug__" : Str)) = false := by decide) (hcd : (x == ("__classdict__" : Str)) = false := by decide) :
    NJ X Z sp (.Name x pos :: es) (.ok (xs, g)) (vwC (fL en) vw) (k :: ks) := nj_oC hr hk hs ho hN hv hd hcd
theorem mpj_mk {sh : Sh} {ks : List Nat} {vw : Vw X.K γ} {m : Res γ} (hs : (∃ kk, e = .Tuple es kk pos ∧ sh = .tup) ∨ (e = .List es pos ∧ sh = .lst)) (h : NJ X Z sp es m vw ks) (hl : es.length ≤ 1000) : MPJ X Z sp e m (pkI sh vw) ks := fun F ad σ H Q S hm => by
  have key : ∀ (ho : List V → HO), (∀ vs, sh.is (ho vs) vs) → wA X es σ H fun vs H1 => vs.length ≤ sizeLine ∧ ∀ l, H1 l = none → Q (.ref l) (upd H1 l (ho vs)) := fun ho hho => by
    refine h F ad σ H _ S (hm.imp fun g q F1 H1 vs l n r nd hq hlen => ⟨Nat.le_of_lt (small1000 (by omega)), fun p0 hp => ?_⟩)
    obtain ⟨g1, g2⟩ := n.free hp
    have hnot : p0 ∉ l := fun z => (hq p0 z).2.2.2 hp
    refine q F1 _ p0 l (n.new hp) ⟨ho vs, vs, upd_same, hho vs, r.go (Same.refl _) fun y hy o z => by rw [upd_ne (fun w => hnot (by rw [← w]; exact hy) : y ≠ p0)]; exact z⟩ (List.nodup_cons.mpr ⟨hnot, nd⟩) g1 fun y hy => ?_
    rcases List.mem_cons.mp hy with rfl | hy
    · exact ⟨.inr g1, g2, S.gh.free g1, by rw [upd_same]; exact fun z => nomatch z⟩
    · obtain ⟨e1, e2, e3, e4⟩ := hq y hy
      exact ⟨e1, e2, e3, by rw [upd_ne (fun w => hnot (by rw [← w]; exact hy) : y ≠ p0)]; exact e4⟩
  rcases hs with ⟨kk, rfl, rfl⟩ | ⟨rfl, rfl⟩
  · exact ofE (pe_tup pa_w) (key .tup fun _ => rfl)
  · exact ofE (pe_lst pa_w) (key .lst fun _ => rfl)
theorem mpj_tup {ks : List Nat} {vw : Vw X.K γ} {m : Res γ} {kk : Nat} (h : NJ X Z sp es m vw ks) (hl : es.length ≤ 1000 := by decide) : MPJ X Z sp (.Tuple es kk pos) m (pkI .tup vw) ks := mpj_mk (.inl ⟨kk, rfl, rfl⟩) h hl
theorem mpj_lst {ks : List Nat} {vw : Vw X.K γ} {m : Res γ} (h : NJ X Z sp es m vw ks) (hl : es.length ≤ 1000 := by decide) : MPJ X Z sp (.List es pos) m (pkI .lst vw) ks := mpj_mk (.inr ⟨rfl, rfl⟩) h hl
theorem mpj_call {A : ArE X.K γ} {mf : γ → Res δ} {E : PkE X.K δ} {ma : Res γ} (am : Amb X Z k) (C : Cal X.prog X.w X.K X.mg X.base x j (spF X.mg A mf (rtP E))) (hj : j ≤ k) (ha : AJ X Z sp (e :: es) ma A) (hn : nst e = true := by rfl) (hg : Gl X x := by rfl)
    (hpl : (backTo pos (starEach es X.env)).any (·.1) = false := by rfl) (hdb : (x == ("__debug__" : Str)) = false := by decide) : MPJ X Z sp (.Call (.Name x fp) (e :: es) [] pos) (ma.bi mf) E [] := fun F ad σ H Q S hm =>
  call_core am C hj ha hn hg hpl hdb F ad σ H Q S (hm.imp fun r q F' H' v F1 H1 n1 n2 ⟨p, l, e1, h1, h2, h3⟩ => by
    subst e1
    have hf : ∀ y ∈ p :: l, H y = none := fun y hy => n1.hh.free (h3 y hy).1
    exact q F' H' p l (n1.trans n2) h1 h2 (hf p (List.mem_cons_self ..)) fun y hy => ⟨.inr (hf y hy), (h3 y hy).2.1, S.gh.free (hf y hy), (h3 y hy).2.2⟩)
theorem mpj_call_p {A : ArE X.K γ} {mf : γ → Res δ} {E : PkE X.K δ} {g : γ} (am : Amb X Z k) (C : Cal X.prog X.w X.K X.mg X.base x j (spF X.mg A mf (rtP E))) (hj : j ≤ k) (ha : AJ X Z sp (e :: es) (.ok g) A) (hn : nst e = true := by rfl) (hg : Gl X x := by rfl)
    (hpl : (backTo pos (starEach es X.env)).any (·.1) = false := by rfl) (hdb : (x == ("__debug__" : Str)) = false := by decide) : MPJ X Z sp (.Call (.Name x fp) (e :: es) [] pos) (mf g) E [] := mpj_call am C hj ha hn hg hpl hdb
/-- an empty list for lists of ours -/
theorem mpj_ll0 {en : Enc X.K α} (h : FJ X Z sp e (.ok ([] : List (List α))) (eL en)) : MPJ X Z sp e (.ok []) (pkLL en) [] := fun F ad σ H Q S hm => by
  refine h F ad σ H Q S (fun F1 H1 p vs n h1 h2 h3 hz r => ?_)
  cases r
  exact hm F1 H1 p [] n ⟨h3, Nat.zero_le _, .nil⟩ (by simp) h1 fun y hy => by
    rw [List.mem_singleton] at hy
    subst hy
    exact ⟨.inr h1, h2, S.gh.free h1, by rw [h3]; exact fun z => nomatch z⟩
/-! ### .. kept, handed back -/
theorem bj_retP {E : PkE X.K ρ} {ks : List Nat} (hR : RT Z (rtP E) Qr D.rt) (h : MPJ X Z sp e m E ks) : BJ X Z Qr D sp (.Return (some e) pos :: rest) m := fun F ad σ H S hm => by
  refine seq (ofS (ps_ret pe_w) ?_)
  refine h F ad σ H _ S (hm.imp fun r q F' H' p l n h1 h2 h3 h4 => ?_)
  have S' := S.nx n
  exact hR r F' H' (.ref p) S'.f0 S'.fh S'.gh S'.fg ⟨p, l, rfl, h1, h2, fun y hy => ⟨(h4 y hy).2.2.1, (h4 y hy).2.1, (h4 y hy).2.2.2⟩⟩ q
theorem bj_retPO {E : PkE X.K ρ} {s : ρ} {i : Nat} (hR : RT Z (rtP E) Qr D.rt) (hs : sp.sl[i]? = some (.own k) := by rfl) (ho : sp.ob[k]? = some (.pk t E s) := by rfl) (hN : X.N[i]? = some x := by rfl)
    (hv : Vis X.env.scope x := by first | exact Or.inl rfl | exact Or.inr (Or.inl rfl) | exact Or.inr (Or.inr rfl)) (hd : (x == ("__debug__" : Str)) = false := by decide) (hcd : (x == ("__classdict__" : Str)) = false := by decide) :
    BJ X Z Qr D sp (.Return (some (.Name x p)) pos :: rest) (.ok s) := fun F ad σ H S hm => by
  refine seq (ofS (ps_ret (pe_var (i := i) hN hv hd hcd)) ?_)
  obtain ⟨o', h1, q0, h2, h3⟩ := S.sl i _ hs
  obtain ⟨q1, L, g1, W, g2, g3, g4, g5⟩ := S.pk ho
  rw [h2] at g1
  cases g1
  refine ⟨.ref q0, by rw [h1, h3], hR s F H (.ref q0) S.f0 S.fh S.gh S.fg ⟨q0, L k, rfl, g2, List.nodup_cons.mpr ⟨fun z => (W.di k q0 z).1 (List.mem_of_getElem? h2), W.nd k⟩, fun y hy => ?_⟩ hm⟩
  rcases List.mem_cons.mp hy with rfl | hy
  · exact ⟨g4, g3, E.st g2⟩
  · obtain ⟨e1, e2, e3, e4⟩ := W.di k y hy
    exact ⟨e3, e2, e4⟩
/-- a new thing of ours -/
theorem SOk.pushPk {E : PkE X.K α} {s : α} {q : Addr} {l : List Addr} (S : SOk Z F ad sp σ H) (n : Nx F H F' H') (h1 : E.rep F' H' l q s) (nd : (q :: l).Nodup) (hq : ∀ y ∈ q :: l, H y = none ∧ F' y = none ∧ H' y ≠ none) : SOk Z F' (ad ++ [q]) ⟨sp.sl, sp.ob ++ [.pk none E s]⟩ σ H' := by
  have S' := S.nx n
  obtain ⟨a1, a2, a3⟩ := hq q (List.mem_cons_self ..)
  have hn : q ∉ ad := fun z => S.st q z a1
  obtain ⟨L, W⟩ := S.lf
  have W' := W.nx n
  have nin : ∀ y ∈ q :: l, ∀ k, y ∉ L k := fun y hy k z => (W.di k y z).2.2.2 (hq y hy).1
  rw [List.nodup_cons] at nd
  have hin : ∀ y ∈ l, y ∉ ad ++ [q] := fun y hy z => by
    rcases List.mem_append.mp z with z | z
    · exact S.st y z (hq y (List.mem_cons_of_mem _ hy)).1
    · rw [List.mem_singleton] at z
      exact nd.1 (z ▸ hy)
  refine ⟨S'.f0, S'.fh, S'.gh, S'.fg, ?_, fun a ha => ?_, S'.len, fun i s h => ?_, ?_, fun k o h => ?_, ⟨fun k => if k = sp.ob.length then l else if k < sp.ob.length then L k else [], fun k y hy => ?_, fun k y hy k' hy' => ?_, fun k => ?_, fun k α' t' e' xs' hk => ?_⟩⟩
  · rw [List.nodup_append]
    exact ⟨S.nd, by simp, fun a ha b hb e => hn (by simp at hb; rw [← hb, ← e]; exact ha)⟩
  · rcases List.mem_append.mp ha with ha | ha
    · exact S'.st a ha
    · simp at ha
      rw [ha]
      exact a3
  · obtain ⟨o, h1, h2⟩ := S'.sl i s h
    exact ⟨o, h1, h2.push q⟩
  · simp [S.olen]
  · have h : (sp.ob ++ [.pk none E s])[k]? = some o := h
    by_cases hk : k < sp.ob.length
    · rw [List.getElem?_append_left hk] at h
      obtain ⟨p, h1, h2⟩ := S'.ob k o h
      exact ⟨p, by rw [List.getElem?_append_left (getElem?_some_of h1)]; exact h1, h2⟩
    · have hl := getElem?_some_of h
      have e : k = sp.ob.length := by simp at hl; omega
      subst e
      simp at h
      subst h
      exact ⟨q, by rw [S.olen]; simp, trivial⟩
  · have hy : y ∈ (if k = sp.ob.length then l else if k < sp.ob.length then L k else []) := hy
    by_cases hk : k = sp.ob.length
    · rw [if_pos hk] at hy
      obtain ⟨b1, b2, b3⟩ := hq y (List.mem_cons_of_mem _ hy)
      exact ⟨hin y hy, b2, S.gh.free b1, b3⟩
    · rw [if_neg hk] at hy
      split at hy
      · obtain ⟨b1, b2, b3, b4⟩ := W'.di k y hy
        refine ⟨fun z => ?_, b2, b3, b4⟩
        rcases List.mem_append.mp z with z | z
        · exact b1 z
        · rw [List.mem_singleton] at z
          subst z
          exact nin y (List.mem_cons_self ..) k hy
      · cases hy
  · have hy : y ∈ (if k = sp.ob.length then l else if k < sp.ob.length then L k else []) := hy
    have hy' : y ∈ (if k' = sp.ob.length then l else if k' < sp.ob.length then L k' else []) := hy'
    by_cases hk : k = sp.ob.length
    · rw [if_pos hk] at hy
      by_cases hk' : k' = sp.ob.length
      · rw [hk, hk']
      · rw [if_neg hk'] at hy'
        split at hy'
        · exact absurd hy' (nin y (List.mem_cons_of_mem _ hy) k')
        · cases hy'
    · rw [if_neg hk] at hy
      split at hy
      · by_cases hk' : k' = sp.ob.length
        · rw [if_pos hk'] at hy'
          exact absurd hy (nin y (List.mem_cons_of_mem _ hy') k)
        · rw [if_neg hk'] at hy'
          split at hy'
          · exact W.un k y hy k' hy'
          · cases hy'
      · cases hy
  · show (if k = sp.ob.length then l else if k < sp.ob.length then L k else []).Nodup
    split
    · exact nd.2
    · split
      · exact W.nd k
      · exact List.nodup_nil
  · have hk : (sp.ob ++ [.pk none E s])[k]? = some (.pk t' e' xs') := hk
    by_cases hlt : k < sp.ob.length
    · rw [List.getElem?_append_left hlt] at hk
      obtain ⟨p, hp, r⟩ := W'.ok k α' t' e' xs' hk
      refine ⟨p, by rw [List.getElem?_append_left (getElem?_some_of hp)]; exact hp, ?_⟩
      show pkOk _ _ _ _ _ (if k = sp.ob.length then l else if k < sp.ob.length then L k else []) _ _
      rw [if_neg (by omega), if_pos hlt]
      exact r
    · have hl := getElem?_some_of hk
      have e : k = sp.ob.length := by simp at hl; omega
      subst e
      rw [List.getElem?_append_right (Nat.le_refl _), Nat.sub_self] at hk
      cases hk
      refine ⟨q, by rw [S.olen]; simp, ?_⟩
      show pkOk _ _ _ _ _ (if sp.ob.length = sp.ob.length then l else _) _ _
      rw [if_pos rfl]
      exact ⟨h1, a2, S.gh.free a1, fun _ z => nomatch z⟩
theorem bj_ownP {E : PkE X.K α} {me : Res α} {kk : α → Res ρ} {i : Nat} {pos' : Pos} (am : Amb X Z k) (h : MPJ X Z sp e me E []) (hr : ∀ v, BJ X Z Qr D ⟨sp.sl.set i (.own sp.ob.length), sp.ob ++ [.pk none E v]⟩ rest (kk v)) (hi : X.N[i]? = some x := by rfl) (hx : Loc X.env.scope x := by first | exact Or.inl rfl | exact Or.inr rfl)
    (hs : swapsWith e (some (.Name x pos')) pos.line X.env = pure false := by rfl) (hf : X.fn x = true ∨ X.env.scope.names.lookup x = some .local := by first | exact .inl rfl | exact .inr rfl) :
    BJ X Z Qr D sp (.Assign [.Name x pos'] e pos :: rest) (me.bi kk) := fun F ad σ H S hm => by
  refine seq (ofS (ps_set am.nd hi hx pe_w hs hf) ?_)
  refine h F ad σ H _ S (hm.bi.imp fun v q F' H' p l n h1 h2 h3 h4 => ?_)
  exact hr v F' (ad ++ [p]) _ H' ((S.pushPk n h1 h2 fun y hy => ⟨(h4 y hy).1.resolve_left (by rintro ⟨k, z, _⟩; cases z), (h4 y hy).2.1, (h4 y hy).2.2.2⟩).set ⟨p, by rw [S.olen]; simp, rfl⟩) q
theorem bj_ownP_p {E : PkE X.K α} {v : α} {i : Nat} {pos' : Pos} (am : Amb X Z k) (h : MPJ X Z sp e (.ok v) E []) (hr : BJ X Z Qr D ⟨sp.sl.set i (.own sp.ob.length), sp.ob ++ [.pk none E v]⟩ rest m) (hi : X.N[i]? = some x := by rfl) (hx : Loc X.env.scope x := by first | exact Or.inl rfl | exact Or.inr rfl)
    (hs : swapsWith e (some (.Name x pos')) pos.line X.env = pure false := by rfl) (hf : X.fn x = true ∨ X.env.scope.names.lookup x = some .local := by first | exact .inl rfl | exact .inr rfl) :
    BJ X Z Qr D sp (.Assign [.Name x pos'] e pos :: rest) m := fun F ad σ H S hm => by
  refine seq (ofS (ps_set am.nd hi hx pe_w hs hf) ?_)
  refine h F ad σ H _ S (fun F' H' p l n h1 h2 h3 h4 => ?_)
  exact hr F' (ad ++ [p]) _ H' ((S.pushPk n h1 h2 fun y hy => ⟨(h4 y hy).1.resolve_left (by rintro ⟨k, z, _⟩; cases z), (h4 y hy).2.1, (h4 y hy).2.2.2⟩).set ⟨p, by rw [S.olen]; simp, rfl⟩) hm
/-- .. that stays at once -/
theorem ej_mpj {E : PkE X.K α} {en : Enc X.K α} {me : Res α} (fz : FzE E en) (h : MPJ X Z sp e me E []) : EJ X Z sp e me en := fun F ad σ H Q S hm => by
  refine h F ad σ H Q S (hm.imp fun v q F' H' p l n h1 h2 h3 h4 => ?_)
  let F2 : Hp := fun a => if a ∈ p :: l then H' a else F' a
  have hin : ∀ a ∈ p :: l, F2 a = H' a := fun a ha => if_pos ha
  have ff : Same F' F2 := fun a o z => by
    show (if a ∈ p :: l then H' a else F' a) = some o
    split
    · exact n.fh _ _ z
    · exact z
  refine q F2 H' (.ref p) ⟨n.ff.trans ff, n.hh, fun a o z => ?_, fun a z => ?_⟩ (fz F' H' F2 l p v h1 ff (hin p (List.mem_cons_self ..)) fun y hy => hin y (List.mem_cons_of_mem _ hy))
  · have z : (if a ∈ p :: l then H' a else F' a) = some o := z
    split at z
    · exact z
    · exact n.fh _ _ z
  · by_cases ha : a ∈ p :: l
    · exact .inr ((h4 a ha).1.resolve_left (by rintro ⟨k, z, _⟩; cases z))
    · have z : (if a ∈ p :: l then H' a else F' a) ≠ none := z
      rw [if_neg ha] at z
      exact n.nw a z
end
end Wk

set_option Elab.async false
set_option linter.all false
set_option maxRecDepth 100000
set_option maxHeartbeats 4000000
namespace Wk
open PySem PySem.Spec PyProof.Rows L2
section
variable {X : Cx} {Z : Fz} {sp : Spec X.K} {a b c e : Expr} {es : List Expr} {pos p p2 p3 fp : Pos} {α β γ δ ρ θ : Type} {k j : Nat} {x : Str} {F F' H H' : Hp} {ad : List Addr} {σ : Sg} {Qr : ρ → Prop} {D : Ends} {st : Stmt} {st' rest body : List Stmt} {m : Res ρ} {t : Option Addr} {tg it : Expr}
variable {sh : Sh} {o i n : Nat} {vw : Vw X.K γ} {s : γ}
theorem ixN_nat' {n j : Nat} (hj : j < n) : ixN n (j : Int) = some j := by
  unfold ixN
  rw [if_pos (by omega), if_pos (by omega)]
  rfl
/-- x[c] = a new list, x a list of such things -/
theorem bj_putIx {en : Enc X.K α} {me : Res (List α)} {kk : List α → Res ρ} {jj : Nat} {spos : Pos} {f0 : Fd X.K} (s' : List α → γ) (n : Nat) (hs : sp.sl[i]? = some (.own o)) (ho : sp.ob[o]? = some (.pk t (pkI .lst vw) s)) (h : FJ X Z sp e me en) (hf : (vw s)[n]? = some f0)
    (hs' : ∀ v, vw (s' v) = (vw s).set n (.lst en v)) (hr : ∀ v, BJ X Z Qr D ⟨sp.sl, sp.ob.set o (.pk t (pkI .lst vw) (s' v))⟩ rest (kk v)) (hN : X.N[i]? = some x := by rfl)
    (hv : Vis X.env.scope x := by first | exact Or.inl rfl | exact Or.inr (Or.inl rfl) | exact Or.inr (Or.inr rfl)) (hd : (x == ("__debug__" : Str)) = false := by decide) (hcd : (x == ("__classdict__" : Str)) = false := by decide)
    (ha : ∀ v, assign (.Subscript (.Name x p) (.Constant (.int (n : Int)) jj p2) spos) X.env v = (do
      let ov ← holding [v] (eval (.Name x p) X.env)
      let iv ← holding [v, ov] (eval (.Constant (.int (n : Int)) jj p2) X.env)
      standAt spos
      holding [v, ov, iv] (setItem ov iv v)
      release [v, ov, iv] []) := by intro _; rfl)
    (h2 : swapsWithSole [.Subscript (.Name x p) (.Constant (.int (n : Int)) jj p2) spos] e pos.line X.env = pure false := by rfl) (hw : swappedStores [.Subscript (.Name x p) (.Constant (.int (n : Int)) jj p2) spos] e X.env = pure none := by rfl) (h1 : (assignEach [.Subscript (.Name x p) (.Constant (.int (n : Int)) jj p2) spos] X.env).map (·.2) = [assign (.Subscript (.Name x p) (.Constant (.int (n : Int)) jj p2) spos) X.env] := by rfl) :
    BJ X Z Qr D sp (.Assign [.Subscript (.Name x p) (.Constant (.int (n : Int)) jj p2) spos] e pos :: rest) (me.bi kk) := fun F ad σ H S hm => by
  refine seq (ofS (ps_asg pe_w (pg_sub (pe_var (i := i) hN hv hd hcd) pe_int set_list ha) h2 hw h1) ?_)
  refine h F ad σ H _ S (hm.bi.imp fun y g F1 H1 q us n1 r1 r2 r3 rz r4 => ?_)
  have S1 := S.nx n1
  obtain ⟨o', g1, q0, g2, g3⟩ := S.sl i _ hs
  obtain ⟨q1, L, g4, W, ⟨hdo, vs, k1, k2, k3⟩, k4, k5, k6⟩ := S.pk ho
  rw [g2] at g4
  cases g4
  have k2 : hdo = .lst vs := k2
  subst k2
  have hl : n < vs.length := by rw [← k3.len]; exact getElem?_some_of hf
  have nW : ∀ k, q ∉ L k := fun k z => (W.di k q z).2.2.2 r1
  have k3' := k3.go n1.ff fun q _ => n1.hh q
  have k4' := n1.non k4 (by rw [k1]; exact fun z => nomatch z)
  obtain ⟨l', m1, m2, m3⟩ := k3'.put_one (e' := lstE en) (b := y) r3 ⟨us, rfl, rz, r4⟩ (nW o) (W.nd o) (getElem?_some_of hf)
  refine ⟨.ref q0, by rw [g1, g3], q0, vs, n, n, rfl, rfl, n1.hh _ _ k1, ixN_nat' hl, ?_⟩
  refine hr y F1 ad σ _ (pkput (vs' := vs.set n (.ref q)) (hd' := .lst (vs.set n (.ref q))) (l' := l') S1 (W.nx n1) (getElem?_some_of ho) g2 k4' k5 k6 rfl (by rw [hs']; exact m1) m2 fun z hz => ?_) g
  rcases m3 z hz with rfl | hz
  · exact .inr ⟨r2, S.gh.free r1, fun w => S.st z w r1, by rw [r3]; exact (fun z => nomatch z), nW⟩
  · exact .inl hz
/-- a, b = a new pair of new lists -/
theorem bj_un2 {en : Enc X.K α} {en' : Enc X.K β} {me : Res (List α × List β)} {kk : List α × List β → Res ρ} {i' : Nat} {y y' : Str} {py py' : Pos} {tk : Nat} (am : Amb X Z k) (h : MPJ X Z sp e me (pkI .tup (vwC (fL en) (vw1 (fL en')))) [])
    (hr : ∀ v, BJ X Z Qr D ⟨(sp.sl.set i (.own sp.ob.length)).set i' (.own (sp.ob.length + 1)), (sp.ob ++ [.lst none en v.1]) ++ [.lst none en' v.2]⟩ rest (kk v)) (hi : X.N[i]? = some y := by rfl) (hi' : X.N[i']? = some y' := by rfl)
    (hx : Loc X.env.scope y := by first | exact Or.inl rfl | exact Or.inr rfl) (hx' : Loc X.env.scope y' := by first | exact Or.inl rfl | exact Or.inr rfl)
    (hf : X.fn y = true ∨ X.env.scope.names.lookup y = some .local := by first | exact .inl rfl | exact .inr rfl) (hf' : X.fn y' = true ∨ X.env.scope.names.lookup y' = some .local := by first | exact .inl rfl | exact .inr rfl)
    (hlen : (assignEach [.Name y py, .Name y' py'] X.env).length = 2 := by rfl) (hst : (assignEach [.Name y py, .Name y' py'] X.env).findIdx? (·.1) = none := by rfl)
    (ha : (assignEach [.Name y py, .Name y' py'] X.env).map (·.2) = assign (.Name y py) X.env :: (assignEach [.Name y' py'] X.env).map (·.2) := by rfl) (ha2 : (assignEach [.Name y' py'] X.env).map (·.2) = assign (.Name y' py') X.env :: (assignEach [] X.env).map (·.2) := by rfl)
    (hs : swapsWithSole [.Tuple [.Name y py, .Name y' py'] tk p] e pos.line X.env = pure false := by rfl) (hw : swappedStores [.Tuple [.Name y py, .Name y' py'] tk p] e X.env = pure none := by rfl) (h1 : (assignEach [.Tuple [.Name y py, .Name y' py'] tk p] X.env).map (·.2) = [assign (.Tuple [.Name y py, .Name y' py'] tk p) X.env] := by rfl) :
    BJ X Z Qr D sp (.Assign [.Tuple [.Name y py, .Name y' py'] tk p] e pos :: rest) (me.bi kk) := fun F ad σ H S hm => by
  refine seq (ofS (ps_asg pe_w (pg_tup (n := 2) am.calm (pgs_cons (pg_name am.nd hi hx hf) (pgs_cons (pg_name am.nd hi' hx' hf') pgs_nil ha2) ha) hlen hst) hs hw h1) ?_)
  refine h F ad σ H _ S (hm.bi.imp fun v g F1 H1 q l n1 r1 r2 r3 r4 => ?_)
  obtain ⟨o, vs, k1, k2, k3⟩ := r1
  have k2 : o = .tup vs := k2
  subst k2
  have k3 : FdOk F1 H1 [Fd.lst en v.1, Fd.lst en' v.2] vs l := k3
  cases k3 with
  | one a1 a2 r =>
    rename_i q1 o1 vs1 l1
    cases r with
    | one b1 b2 r =>
      rename_i q2 o2 vs2 l2
      cases r
      obtain ⟨us1, rfl, a3, a4⟩ := a2
      obtain ⟨us2, rfl, b3, b4⟩ := b2
      have m1 := r4 q1 (by simp)
      have m2 := r4 q2 (by simp)
      have f1 : H q1 = none := m1.1.resolve_left (by rintro ⟨k, z, _⟩; cases z)
      have f2 : H q2 = none := m2.1.resolve_left (by rintro ⟨k, z, _⟩; cases z)
      have ne : q1 ≠ q2 := fun z => by
        subst z
        simp at r2
      let H2 : Hp := fun a => if a = q2 then none else H1 a
      have h2n : ∀ a, a ≠ q2 → H2 a = H1 a := fun a h => if_neg h
      have h2q : H2 q2 = none := if_pos rfl
      have nA : Nx F H F1 H2 := ⟨n1.ff, fun a o z => by rw [h2n a (ne_of_none z f2)]; exact n1.hh _ _ z, fun a o z => by rw [h2n a (ne_of_none z m2.2.1)]; exact n1.fh _ _ z, n1.nw⟩
      have nB : Nx F1 H2 F1 H1 := ⟨Same.refl _, fun a o z => by
        have : a ≠ q2 := ne_of_none z h2q
        rw [h2n a this] at z
        exact z, n1.fh, fun _ h => .inl h⟩
      have S1 := S.push nA f1 m1.2.1 (by rw [h2n q1 ne]; exact a1) a3 a4
      have S2 := S1.push nB h2q m2.2.1 b1 b3 b4
      refine ⟨q, [.ref q1, .ref q2], rfl, SqT.of k1, rfl, .ref q1, [.ref q2], rfl, .ref q2, [], rfl, rfl, ?_⟩
      refine hr v F1 _ _ H1 ((S2.set (i := i) (s := .own sp.ob.length) (v := .ref q1) ⟨q1, ?_, rfl⟩).set (i := i') (s := .own (sp.ob.length + 1)) (v := .ref q2) ⟨q2, ?_, rfl⟩) g
      · rw [S.olen, List.getElem?_append_left (by simp), List.getElem?_append_right (Nat.le_refl _)]
        simp
      · rw [S.olen, List.getElem?_append_right (by simp)]
        simp
/-- the same thing, told otherwise -/
theorem pk_same {K : Frag} {G : Hp} {vw : Vw K γ} {s : γ} {vw' : Vw K δ} {s' : δ} {l : List Addr} {q : Addr} (hv : vw s = vw' s') (h : pkOk G F H t (pkI sh vw) l s q) : pkOk G F H t (pkI sh vw') l s' q := by
  obtain ⟨⟨o, vs, h1, h2, h3⟩, h4⟩ := h
  exact ⟨⟨o, vs, h1, h2, by rw [← hv]; exact h3⟩, h4⟩
theorem SOk.repk {vw' : Vw X.K δ} {s' : δ} (S : SOk Z F ad sp σ H) (ho : sp.ob[o]? = some (.pk t (pkI sh vw) s)) (hv : vw s = vw' s') : SOk Z F ad ⟨sp.sl, sp.ob.set o (.pk t (pkI sh vw') s')⟩ σ H := by
  obtain ⟨q0, L, h1, W, h2⟩ := S.pk ho
  refine S.pkset (L := L) (l' := L o) W h1 h2.2.1 h2.2.2.1 (getElem?_some_of ho) (fun _ _ _ => rfl) (fun b hb => ?_) (W.nd o) (pk_same hv h2)
  obtain ⟨e1, e2, e3, e4⟩ := W.di o b hb
  exact ⟨e2, e3, e1, e4, fun k hk z => hk (W.un o b hb k z)⟩
theorem bj_repk {vw' : Vw X.K δ} (o : Nat) (s' : δ) (ho : sp.ob[o]? = some (.pk t (pkI sh vw) s)) (hv : vw s = vw' s') (hr : BJ X Z Qr D ⟨sp.sl, sp.ob.set o (.pk t (pkI sh vw') s')⟩ st' m) : BJ X Z Qr D sp st' m := fun F ad σ H S hm => hr F ad σ H (S.repk ho hv) hm
/-! ### fields of an instance -/
theorem putF_zip {ns : List Str} {vs : List V} {v : V} : ∀ {n : Nat} {f : Str}, ns.Nodup → ns[n]? = some f → ns.length = vs.length → putF f v (ns.zip vs) = ns.zip (vs.set n v) := by
  induction ns generalizing vs with
  | nil => intro n f _ h; simp at h
  | cons m ns ih =>
    intro n f nd h hl
    cases vs with
    | nil => cases hl
    | cons w vs =>
      rw [List.nodup_cons] at nd
      have hl' : ns.length = vs.length := by simpa using hl
      cases n with
      | zero =>
        simp at h
        subst h
        show (if m = m then (m, v) :: ns.zip vs else _) = _
        rw [if_pos rfl]
        rfl
      | succ n =>
        have h' : ns[n]? = some f := by simpa using h
        have hne : m ≠ f := fun z => nd.1 (z ▸ List.mem_of_getElem? h')
        show (if m = f then _ else (m, w) :: putF f v (ns.zip vs)) = _
        rw [if_neg hne, ih nd.2 h' hl']
        rfl
theorem putF_new {ns : List Str} {vs : List V} {v : V} {f : Str} (hf : f ∉ ns) (hl : ns.length = vs.length) : putF f v (ns.zip vs) = (ns ++ [f]).zip (vs ++ [v]) := by
  induction ns generalizing vs with
  | nil =>
    cases vs with
    | nil => rfl
    | cons w vs => cases hl
  | cons m ns ih =>
    cases vs with
    | nil => cases hl
    | cons w vs =>
      rw [List.mem_cons, not_or] at hf
      show (if m = f then _ else (m, w) :: putF f v (ns.zip vs)) = _
      rw [if_neg (Ne.symm hf.1), ih hf.2 (by simpa using hl)]
      rfl
variable {C : Addr} {ns : List Str} {f : Str}
/-- x.f = a new list -/
theorem bj_sfO {en : Enc X.K α} {me : Res (List α)} {kk : List α → Res ρ} {f0 : Fd X.K} {pos' : Pos} (s' : List α → γ) (n : Nat) (fo : FldOk X.K C f) (hs : sp.sl[i]? = some (.own o)) (ho : sp.ob[o]? = some (.pk t (pkI (.ins C ns) vw) s)) (h : FJ X Z sp e me en) (hf : (vw s)[n]? = some f0) (hn : ns[n]? = some f)
    (hs' : ∀ v, vw (s' v) = (vw s).set n (.lst en v)) (hr : ∀ v, BJ X Z Qr D ⟨sp.sl, sp.ob.set o (.pk t (pkI (.ins C ns) vw) (s' v))⟩ rest (kk v)) (hN : X.N[i]? = some x := by rfl) (nd : ns.Nodup := by decide) (hfew : ns.length < 1000 := by decide)
    (hv : Vis X.env.scope x := by first | exact Or.inl rfl | exact Or.inr (Or.inl rfl) | exact Or.inr (Or.inr rfl)) (hd : (x == ("__debug__" : Str)) = false := by decide) (hcd : (x == ("__classdict__" : Str)) = false := by decide)
    (hsw : swapsWith e (some (.Attribute (.Name x p) f pos')) pos.line X.env = pure false := by rfl) :
    BJ X Z Qr D sp (.Assign [.Attribute (.Name x p) f pos'] e pos :: rest) (me.bi kk) := fun F ad σ H S hm => by
  refine seq (ofS (ps_fld (pe_var (i := i) hN hv hd hcd) pe_w hsw) ?_)
  refine h F ad σ H _ S (hm.bi.imp fun y g F1 H1 q us n1 r1 r2 r3 rz r4 => ?_)
  have S1 := S.nx n1
  obtain ⟨o', g1, q0, g2, g3⟩ := S.sl i _ hs
  obtain ⟨q1, L, g4, W, ⟨hdo, vs, k1, ⟨kl, dx, k2⟩, k3⟩, k4, k5, k6⟩ := S.pk ho
  rw [g2] at g4
  cases g4
  subst k2
  have nW : ∀ k, q ∉ L k := fun k z => (W.di k q z).2.2.2 r1
  have k3' := k3.go n1.ff fun q _ => n1.hh q
  have k4' := n1.non k4 (by rw [k1]; exact fun z => nomatch z)
  obtain ⟨l', m1, m2, m3⟩ := k3'.put_one (e' := lstE en) (b := y) r3 ⟨us, rfl, rz, r4⟩ (nW o) (W.nd o) (getElem?_some_of hf)
  refine ⟨.ref q0, by rw [g1, g3], q0, C, dx, _, rfl, n1.hh _ _ k1, fo.cl, fo.na, by rw [List.length_zip]; omega, ?_⟩
  rw [putF_zip nd hn kl]
  refine hr y F1 ad σ _ (pkput (vs' := vs.set n (.ref q)) (hd' := .ins C dx (ns.zip (vs.set n (.ref q)))) (l' := l') S1 (W.nx n1) (getElem?_some_of ho) g2 k4' k5 k6 ⟨by rw [List.length_set]; exact kl, dx, rfl⟩ (by rw [hs']; exact m1) m2 fun z hz => ?_) g
  rcases m3 z hz with rfl | hz
  · exact .inr ⟨r2, S.gh.free r1, fun w => S.st z w r1, by rw [r3]; exact (fun z => nomatch z), nW⟩
  · exact .inl hz
/-- x.f = a value -/
theorem bj_sfV {en : Enc X.K α} {me : Res α} {kk : α → Res ρ} {f0 : Fd X.K} {pos' : Pos} (s' : α → γ) (n : Nat) (fo : FldOk X.K C f) (hs : sp.sl[i]? = some (.own o)) (ho : sp.ob[o]? = some (.pk t (pkI (.ins C ns) vw) s)) (h : EJ X Z sp e me en) (hf : (vw s)[n]? = some f0) (hn : ns[n]? = some f)
    (hs' : ∀ v, vw (s' v) = (vw s).set n (.val en v)) (hr : ∀ v, BJ X Z Qr D ⟨sp.sl, sp.ob.set o (.pk t (pkI (.ins C ns) vw) (s' v))⟩ rest (kk v)) (hN : X.N[i]? = some x := by rfl) (nd : ns.Nodup := by decide) (hfew : ns.length < 1000 := by decide)
    (hv : Vis X.env.scope x := by first | exact Or.inl rfl | exact Or.inr (Or.inl rfl) | exact Or.inr (Or.inr rfl)) (hd : (x == ("__debug__" : Str)) = false := by decide) (hcd : (x == ("__classdict__" : Str)) = false := by decide)
    (hsw : swapsWith e (some (.Attribute (.Name x p) f pos')) pos.line X.env = pure false := by rfl) :
    BJ X Z Qr D sp (.Assign [.Attribute (.Name x p) f pos'] e pos :: rest) (me.bi kk) := fun F ad σ H S hm => by
  refine seq (ofS (ps_fld (pe_var (i := i) hN hv hd hcd) pe_w hsw) ?_)
  refine h F ad σ H _ S (hm.bi.imp fun y g F1 H1 u n1 r1 => ?_)
  have S1 := S.nx n1
  obtain ⟨o', g1, q0, g2, g3⟩ := S1.sl i _ hs
  obtain ⟨q1, L, g4, W, ⟨hdo, vs, k1, ⟨kl, dx, k2⟩, k3⟩, k4, k5, k6⟩ := S1.pk ho
  rw [g2] at g4
  cases g4
  subst k2
  obtain ⟨l', m1, m2, m3⟩ := k3.put_val (e' := en) (b := y) r1 (W.nd o) (getElem?_some_of hf)
  refine ⟨.ref q0, by rw [g1, g3], q0, C, dx, _, rfl, k1, fo.cl, fo.na, by rw [List.length_zip]; omega, ?_⟩
  rw [putF_zip nd hn kl]
  exact hr y F1 ad σ _ (pkput (vs' := vs.set n u) (hd' := .ins C dx (ns.zip (vs.set n u))) (l' := l') S1 W (getElem?_some_of ho) g2 k4 k5 k6 ⟨by rw [List.length_set]; exact kl, dx, rfl⟩ (by rw [hs']; exact m1) m2 fun z hz => .inl (m3 z hz)) g
theorem bj_sfV_p {en : Enc X.K α} {y : α} {f0 : Fd X.K} {pos' : Pos} (s' : γ) (n : Nat) (fo : FldOk X.K C f) (hs : sp.sl[i]? = some (.own o)) (ho : sp.ob[o]? = some (.pk t (pkI (.ins C ns) vw) s)) (h : EJ X Z sp e (.ok y) en) (hf : (vw s)[n]? = some f0) (hn : ns[n]? = some f)
    (hs' : vw s' = (vw s).set n (.val en y)) (hr : BJ X Z Qr D ⟨sp.sl, sp.ob.set o (.pk t (pkI (.ins C ns) vw) s')⟩ rest m) (hN : X.N[i]? = some x := by rfl) (nd : ns.Nodup := by decide) (hfew : ns.length < 1000 := by decide)
    (hv : Vis X.env.scope x := by first | exact Or.inl rfl | exact Or.inr (Or.inl rfl) | exact Or.inr (Or.inr rfl)) (hd : (x == ("__debug__" : Str)) = false := by decide) (hcd : (x == ("__classdict__" : Str)) = false := by decide)
    (hsw : swapsWith e (some (.Attribute (.Name x p) f pos')) pos.line X.env = pure false := by rfl) :
    BJ X Z Qr D sp (.Assign [.Attribute (.Name x p) f pos'] e pos :: rest) m := fun F ad σ H S hm => by
  refine seq (ofS (ps_fld (pe_var (i := i) hN hv hd hcd) pe_w hsw) ?_)
  refine h F ad σ H _ S (fun F1 H1 u n1 r1 => ?_)
  have S1 := S.nx n1
  obtain ⟨o', g1, q0, g2, g3⟩ := S1.sl i _ hs
  obtain ⟨q1, L, g4, W, ⟨hdo, vs, k1, ⟨kl, dx, k2⟩, k3⟩, k4, k5, k6⟩ := S1.pk ho
  rw [g2] at g4
  cases g4
  subst k2
  obtain ⟨l', m1, m2, m3⟩ := k3.put_val (e' := en) (b := y) r1 (W.nd o) (getElem?_some_of hf)
  refine ⟨.ref q0, by rw [g1, g3], q0, C, dx, _, rfl, k1, fo.cl, fo.na, by rw [List.length_zip]; omega, ?_⟩
  rw [putF_zip nd hn kl]
  exact hr F1 ad σ _ (pkput (vs' := vs.set n u) (hd' := .ins C dx (ns.zip (vs.set n u))) (l' := l') S1 W (getElem?_some_of ho) g2 k4 k5 k6 ⟨by rw [List.length_set]; exact kl, dx, rfl⟩ (by rw [hs']; exact m1) m2 fun z hz => .inl (m3 z hz)) hm
/-- x.f += a number -/
theorem bj_saug {v u : Int} {tpos : Pos} (s' : γ) (n : Nat) (fo : FldOk X.K C f) (hs : sp.sl[i]? = some (.own o)) (ho : sp.ob[o]? = some (.pk t (pkI (.ins C ns) vw) s)) (h : EJ X Z sp e (.ok v) eI) (hf : (vw s)[n]? = some (.val eI u)) (hn : ns[n]? = some f)
    (hs' : vw s' = (vw s).set n (.val eI (u + v))) (hr : BJ X Z Qr D ⟨sp.sl, sp.ob.set o (.pk t (pkI (.ins C ns) vw) s')⟩ rest m) (hN : X.N[i]? = some x := by rfl) (nd : ns.Nodup := by decide) (hfew : ns.length < 1000 := by decide)
    (hv : Vis X.env.scope x := by first | exact Or.inl rfl | exact Or.inr (Or.inl rfl) | exact Or.inr (Or.inr rfl)) (hd : (x == ("__debug__" : Str)) = false := by decide) (hcd : (x == ("__classdict__" : Str)) = false := by decide) :
    BJ X Z Qr D sp (.AugAssign (.Attribute (.Name x p) f tpos) .Add e pos :: rest) m := fun F ad σ H S hm => by
  refine seq (ofS (ps_fldaug (pe_var (i := i) hN hv hd hcd) pe_w in_add) ?_)
  obtain ⟨o', g1, q0, g2, g3⟩ := S.sl i _ hs
  obtain ⟨q1, L, g4, W, ⟨hdo, vs, k1, ⟨kl, dx, k2⟩, k3⟩, k4, k5, k6⟩ := S.pk ho
  rw [g2] at g4
  cases g4
  subst k2
  obtain ⟨w, hw1, hw2⟩ := k3.val_at hf
  have hw2 : w = .int u := hw2
  subst hw2
  refine ⟨.ref q0, by rw [g1, g3], q0, C, dx, _, .int u, rfl, k1, fo.cl, fo.na, lookup_zip nd hn hw1, ?_⟩
  refine h F ad σ H _ S (fun F1 H1 y n1 r1 => ?_)
  have r1 : y = .int v := r1
  subst r1
  have S1 := S.nx n1
  have k3' := k3.go n1.ff fun q _ => n1.hh q
  have k4' := n1.non k4 (by rw [k1]; exact fun z => nomatch z)
  obtain ⟨l', m1, m2, m3⟩ := k3'.put_val (e' := eI) (b := u + v) (v := .int (u + v)) rfl (W.nd o) (getElem?_some_of hf)
  refine ⟨u, v, rfl, rfl, dx, _, n1.hh _ _ k1, by rw [List.length_zip]; omega, ?_⟩
  rw [putF_zip nd hn kl]
  exact hr F1 ad σ _ (pkput (vs' := vs.set n (.int (u + v))) (hd' := .ins C dx (ns.zip (vs.set n (.int (u + v))))) (l' := l') S1 (W.nx n1) (getElem?_some_of ho) g2 k4' k5 k6 ⟨by rw [List.length_set]; exact kl, dx, rfl⟩ (by rw [hs']; exact m1) m2 fun z hz => .inl (m3 z hz)) hm
end
end Wk

set_option Elab.async false
set_option linter.all false
set_option maxRecDepth 100000
set_option maxHeartbeats 4000000
namespace Wk
open PySem PyProof.Rows L2
/-! ### plain laws of mirrors -/
abbrev Ok {α : Type} (m : Res α) (Q : α → Prop) : Prop := mwp m Q (fun _ => False)
section
variable {α β γ S ρ : Type} {m : Res α} {f : α → Res β} {P Q Q' : α → Prop} {R : β → Prop}
/-- as ok_bi, but never by reduction alone -/
theorem okb {a : α} : (Res.ok a).bi f = f a := id (Eq.refl _)
theorem Ok.eq {b : α} (h : Ok m (fun a => a = b)) : m = .ok b := by
  cases m with
  | ok a => exact congrArg _ (show a = b from h)
  | exc c => exact h.elim
  | bad => exact h.elim
theorem Ok.ex (h : Ok m Q) : ∃ a, m = .ok a ∧ Q a := by
  cases m with
  | ok a => exact ⟨a, rfl, h⟩
  | exc c => exact h.elim
  | bad => exact h.elim
theorem Ok.of {a : α} (e : m = .ok a) (h : Q a) : Ok m Q := by subst e; exact h
theorem Ok.bi (h : Ok m P) (k : ∀ a, P a → Ok (f a) R) : Ok (m.bi f) R := mwp_bi.mpr (mwp.imp h k)
theorem Ok.imp (h : Ok m P) (k : ∀ a, P a → Q a) : Ok m Q := mwp.imp h k
theorem ok_gd {c : Prop} [Decidable c] {a : α} (h : c) (q : Q a) : Ok (gd c a) Q := by rw [gd_pos h]; exact q
/-- an item, by its place from 0 on -/
def gx [Inhabited α] (xs : List α) (i : Int) : α := xs.getD i.toNat default
theorem ixN_pos {n : Nat} {i : Int} (h0 : 0 ≤ i) (h : i < n) : ixN n i = some i.toNat := by unfold ixN; rw [if_pos h0, if_pos h]
theorem ixN_neg {n : Nat} {i : Int} (h0 : i < 0) (h : -(n : Int) ≤ i) : ixN n i = some (i + n).toNat := by unfold ixN; rw [if_neg (by omega), if_pos h]
theorem gx_get [Inhabited α] {xs : List α} {i : Int} (h0 : 0 ≤ i) (h : i < xs.length) : xs[i.toNat]? = some (gx xs i) := by
  unfold gx
  have hl : i.toNat < xs.length := by omega
  rw [List.getElem?_eq_getElem hl, List.getD_eq_getElem?_getD, List.getElem?_eq_getElem hl]
  rfl
theorem geti_eq [Inhabited α] {xs : List α} {i : Int} (h0 : 0 ≤ i) (h : i < xs.length) : geti xs i = .ok (gx xs i) := by
  unfold geti atI
  rw [ixN_pos h0 h]
  show (match xs[i.toNat]? with
    | some a => Res.ok a
    | none => .bad) = _
  rw [gx_get h0 h]
theorem geti_neg [Inhabited α] {xs : List α} {i : Int} (h0 : i < 0) (h : -(xs.length : Int) ≤ i) : geti xs i = .ok (gx xs (i + xs.length)) := by
  unfold geti atI
  rw [ixN_neg h0 h]
  show (match xs[(i + xs.length).toNat]? with
    | some a => Res.ok a
    | none => .bad) = _
  rw [gx_get (by omega) (by omega)]
theorem seti_eq {xs : List α} {i : Int} {a : α} (h0 : 0 ≤ i) (h : i < xs.length) : seti xs i a = .ok (xs.set i.toNat a) := by
  unfold seti
  rw [ixN_pos h0 h]
theorem augi_eq {f : Int → Int → Int} {xs : List Int} {i v : Int} (h0 : 0 ≤ i) (h : i < xs.length) : augi f xs i v = .ok (xs.set i.toNat (f (gx xs i) v)) := by
  unfold augi
  rw [geti_eq h0 h, ok_bi, seti_eq h0 h]
theorem gx_nat [Inhabited α] {xs : List α} {n : Nat} {a : α} (h : xs[n]? = some a) : gx xs (n : Int) = a := by
  unfold gx
  rw [Int.toNat_natCast, List.getD_eq_getElem?_getD, h]
  rfl
theorem gx_mem [Inhabited α] {xs : List α} {i : Int} (h0 : 0 ≤ i) (h : i < xs.length) : gx xs i ∈ xs := List.mem_of_getElem? (gx_get h0 h)
theorem mem_gx [Inhabited α] {xs : List α} {a : α} (h : a ∈ xs) : ∃ i : Int, 0 ≤ i ∧ i < xs.length ∧ gx xs i = a := by
  obtain ⟨n, hn⟩ := List.mem_iff_getElem?.mp h
  have := getElem?_some_of hn
  exact ⟨n, by omega, by omega, gx_nat hn⟩
theorem gx_map [Inhabited α] [Inhabited β] {xs : List α} {f : α → β} {i : Int} (h0 : 0 ≤ i) (h : i < xs.length) : gx (xs.map f) i = f (gx xs i) := by
  have h1 := gx_get h0 h
  have h2 : (xs.map f)[i.toNat]? = some (f (gx xs i)) := by rw [List.getElem?_map, h1]; rfl
  have h3 := gx_get (xs := xs.map f) h0 (by rw [List.length_map]; exact h)
  rw [h2] at h3
  exact (Option.some.inj h3).symm
theorem gx_set [Inhabited α] {xs : List α} {i j : Int} {a : α} (hi : 0 ≤ i) (hj : 0 ≤ j) (h : i < xs.length) : gx (xs.set i.toNat a) j = if j = i then a else gx xs j := by
  unfold gx
  rw [List.getD_eq_getElem?_getD, List.getD_eq_getElem?_getD]
  by_cases e : j = i
  · subst e
    rw [if_pos rfl, List.getElem?_set_self (by omega)]
    rfl
  · rw [if_neg e, List.getElem?_set_ne (by omega)]
theorem ext_gx [Inhabited α] {xs ys : List α} (hl : xs.length = ys.length) (h : ∀ i : Int, 0 ≤ i → i < xs.length → gx xs i = gx ys i) : xs = ys := by
  refine List.ext_getElem? fun n => ?_
  by_cases hn : n < xs.length
  · have h1 := gx_get (xs := xs) (i := n) (by omega) (by omega)
    have h2 := gx_get (xs := ys) (i := n) (by omega) (by omega)
    rw [Int.toNat_natCast] at h1 h2
    rw [h1, h2, h n (by omega) (by omega)]
  · rw [List.getElem?_eq_none (by omega), List.getElem?_eq_none (by omega)]
theorem gx_append [Inhabited α] {xs ys : List α} {i : Int} (h0 : 0 ≤ i) : gx (xs ++ ys) i = if i < xs.length then gx xs i else gx ys (i - xs.length) := by
  unfold gx
  rw [List.getD_eq_getElem?_getD, List.getD_eq_getElem?_getD, List.getD_eq_getElem?_getD]
  by_cases h : i < xs.length
  · rw [if_pos h, List.getElem?_append_left (by omega)]
  · rw [if_neg h, List.getElem?_append_right (by omega)]
    congr 2
    omega
theorem app_eq {xs : List α} {y : α} (h : xs.length < sizeLine) : appM xs y = .ok (xs ++ [y]) := gd_pos h
theorem small_line {n : Nat} (h : n ≤ 16777216) : n ≤ sizeLine := by rw [sizeLine_eq]; omega
theorem small_lt {n : Nat} (h : n < 16777216) : n < sizeLine := by rw [sizeLine_eq]; omega
/-! ranges -/
theorem rng1_eq {j : Int} (h : -(2 ^ 62) ≤ j) (h2 : j ≤ 16777216) : rng1 j = .ok (rangeL 0 j) := gd_pos ⟨h, h2⟩
theorem rng2_eq {i j : Int} (h : -(2 ^ 62) ≤ i) (h1 : i < 2 ^ 62) (h2 : -(2 ^ 62) ≤ j) (h3 : j < 2 ^ 62) (h4 : j - i ≤ 16777216) : rng2 i j = .ok (rangeL i j) := gd_pos ⟨h, h1, h2, h3, h4⟩
theorem mem_rangeL {a b y : Int} : y ∈ rangeL a b ↔ a ≤ y ∧ y < b := by
  unfold rangeL
  rw [List.mem_map]
  constructor
  · rintro ⟨i, hi, rfl⟩
    rw [List.mem_range] at hi
    omega
  · rintro ⟨h1, h2⟩
    exact ⟨(y - a).toNat, by rw [List.mem_range]; omega, by omega⟩
theorem gx_rangeL {a b i : Int} (h0 : 0 ≤ i) (h : i < b - a) : gx (rangeL a b) i = a + i := by
  have h1 := gx_get (xs := rangeL a b) h0 (by rw [rangeL_length]; omega)
  obtain ⟨_, h2⟩ := rangeL_get h1
  rw [h2]
  omega
/-! walks -/
theorem loopC_ok {l : List α} {s : S} {B : α → S → (S → Res ρ) → Res ρ} {k : S → Res ρ} {Q : ρ → Prop} (I : Nat → S → Prop) (h0 : I 0 s) (hb : ∀ i y s next, l[i]? = some y → I i s → (∀ s', I (i + 1) s' → Ok (next s') Q) → Ok (B y s next) Q) (hk : ∀ s, I l.length s → Ok (k s) Q) : Ok (loopC l s B k) Q := by
  induction l generalizing s I with
  | nil => exact hk s h0
  | cons x r ih =>
    refine hb 0 x s _ rfl h0 fun s' h' => ?_
    exact ih (fun i => I (i + 1)) h' (fun i y s next e hI n => hb (i + 1) y s next e hI n) hk
theorem foldM_ok {l : List α} {s : S} {f : α → S → Res S} (I : Nat → S → Prop) (h0 : I 0 s) (hb : ∀ i y s, l[i]? = some y → I i s → Ok (f y s) (I (i + 1))) : Ok (foldM l s f) (I l.length) := by
  induction l generalizing s I with
  | nil => exact h0
  | cons x r ih =>
    refine Ok.bi (hb 0 x s rfl h0) fun s' h' => ?_
    exact ih (fun i => I (i + 1)) h' fun i y s e hI => hb (i + 1) y s e hI
theorem foldM_eq {l : List α} {s : S} {f : α → S → Res S} {g : S → α → S} (h : ∀ y ∈ l, ∀ s, f y s = .ok (g s y)) : foldM l s f = .ok (l.foldl g s) := by
  induction l generalizing s with
  | nil => rfl
  | cons x r ih =>
    show (f x s).bi _ = _
    rw [h x (List.mem_cons_self ..)]
    exact ih fun y hy => h y (List.mem_cons_of_mem _ hy)
/-- a walk that is never left: it ends -/
theorem loopC_all {l : List α} {s : S} {B : α → S → (S → Res ρ) → Res ρ} {k : S → Res ρ} {g : S → α → S} (h : ∀ y ∈ l, ∀ s next, B y s next = next (g s y)) : loopC l s B k = k (l.foldl g s) := by
  induction l generalizing s with
  | nil => rfl
  | cons x r ih =>
    show B x s _ = _
    rw [h x (List.mem_cons_self ..)]
    exact ih fun y hy => h y (List.mem_cons_of_mem _ hy)
theorem mapMx_eq {l : List β} {f : β → Res α} {g : β → α} (h : ∀ y ∈ l, f y = .ok (g y)) : mapMx l f = .ok (l.map g) := by
  induction l with
  | nil => rfl
  | cons x r ih =>
    show (f x).nx.bi _ = _
    rw [h x (List.mem_cons_self ..), ih fun y hy => h y (List.mem_cons_of_mem _ hy)]
    rfl
theorem mapMx_ok2 [Inhabited α] [Inhabited β] {l : List β} {f : β → Res α} {P : β → α → Prop} (h : ∀ y ∈ l, Ok (f y) (P y)) : Ok (mapMx l f) (fun zs => zs.length = l.length ∧ ∀ i : Int, 0 ≤ i → i < l.length → P (gx l i) (gx zs i)) := by
  have h2 : ∀ y, ∃ z, y ∈ l → f y = .ok z ∧ P y z := fun y => by
    by_cases hy : y ∈ l
    · obtain ⟨z, h1, h2⟩ := (h y hy).ex
      exact ⟨z, fun _ => ⟨h1, h2⟩⟩
    · exact ⟨default, fun z => absurd z hy⟩
  refine Ok.of (mapMx_eq fun y hy => ((Classical.choose_spec (h2 y)) hy).1) ⟨by rw [List.length_map], fun i h0 hi => ?_⟩
  rw [gx_map h0 hi]
  exact ((Classical.choose_spec (h2 (gx l i))) (gx_mem h0 hi)).2
theorem compM_eq {l : List β} {c : β → Res Bool} {f : β → Res α} {b : β → Bool} {g : β → α} (hc : ∀ y ∈ l, c y = .ok (b y)) (h : ∀ y ∈ l, b y = true → f y = .ok (g y)) : compM l c f = .ok ((l.filter b).map g) := by
  induction l with
  | nil => rfl
  | cons x r ih =>
    show (c x).nx.bi _ = _
    rw [hc x (List.mem_cons_self ..), List.filter_cons]
    show (if b x then (f x).nx.bi _ else _) = _
    have ih := ih (fun y hy => hc y (List.mem_cons_of_mem _ hy)) fun y hy => h y (List.mem_cons_of_mem _ hy)
    rw [ih]
    cases hb : b x with
    | false => rfl
    | true =>
      rw [if_pos rfl, h x (List.mem_cons_self ..) hb]
      rfl
theorem whileM_ok {n : Nat} {s : S} {c : S → Res Bool} {B : S → Res S} {Q : S → Prop} (I : Nat → S → Prop) {k : Nat} (h0 : I k s) (hk : k < n) (hb : ∀ k s, I k s → Ok (c s) (fun b => if b = true then (∃ j, k = j + 1 ∧ Ok (B s) (I j)) else Q s)) : Ok (whileM n s c B) Q := by
  induction n generalizing s k with
  | zero => omega
  | succ n ih =>
    refine Ok.bi (hb k s h0) fun b hbv => ?_
    cases b with
    | false => exact hbv
    | true =>
      obtain ⟨j, e, h⟩ := hbv
      refine Ok.bi h fun s' h' => ih h' (by omega)
theorem whileC_ok {n : Nat} {s : S} {c : S → Res Bool} {B : S → (S → Res ρ) → Res ρ} {kk : S → Res ρ} {Q : ρ → Prop} (I : Nat → S → Prop) {k : Nat} (h0 : I k s) (hk : k < n) (hb : ∀ k s, I k s → Ok (c s) (fun b => if b = true then (∃ j, k = j + 1 ∧ ∀ next : S → Res ρ, (∀ s', I j s' → Ok (next s') Q) → Ok (B s next) Q) else Ok (kk s) Q)) : Ok (whileC n s c B kk) Q := by
  induction n generalizing s k with
  | zero => omega
  | succ n ih =>
    refine Ok.bi (hb k s h0) fun b hbv => ?_
    cases b with
    | false => exact hbv
    | true =>
      obtain ⟨j, e, h⟩ := hbv
      exact h _ fun s' h' => ih h' (by omega)
/-! sizes -/
/-- below 2 ** a, either way -/
def Bd (a : Nat) (x : Int) : Prop := x.natAbs < 2 ^ a
theorem Bd.mono {a b : Nat} {x : Int} (h : Bd a x) (hab : a ≤ b) : Bd b x := Nat.lt_of_lt_of_le h (Nat.pow_le_pow_right (by omega) hab)
theorem Bd.mul {a b : Nat} {x y : Int} (h : Bd a x) (k : Bd b y) : Bd (a + b) (x * y) := by
  unfold Bd at *
  rw [Int.natAbs_mul, Nat.pow_add]
  exact Nat.mul_lt_mul'' h k
theorem Bd.add {a : Nat} {x y : Int} (h : Bd a x) (k : Bd a y) : Bd (a + 1) (x + y) := by
  unfold Bd at *
  have := Int.natAbs_add_le x y
  rw [Nat.pow_succ]
  omega
theorem Bd.sub {a : Nat} {x y : Int} (h : Bd a x) (k : Bd a y) : Bd (a + 1) (x - y) := by
  unfold Bd at *
  have := Int.natAbs_sub_le x y
  rw [Nat.pow_succ]
  omega
theorem Bd.bits {n : Nat} {x : Int} (h : PySem.Builtin.Int.intBits x ≤ n) : Bd (n + 1) x := by
  unfold Bd
  unfold PySem.Builtin.Int.intBits at h
  by_cases h0 : x.natAbs = 0
  · rw [h0]
    exact Nat.two_pow_pos _
  · rw [if_neg (by simpa using fun e => h0 (by rw [e]; rfl))] at h
    exact (Nat.log2_lt h0).mp (by omega)
theorem mulM_eq {x y : Int} (a b : Nat) (h : Bd a x) (k : Bd b y) (hab : a + b < 100000000 := by decide) : mulM x y = .ok (x * y) := by
  refine gd_pos ?_
  unfold mulOk
  have lg : ∀ (n : Nat) (z : Int), Bd n z → z.natAbs.log2 ≤ n := fun n z hz => by
    by_cases h0 : z.natAbs = 0
    · rw [h0]
      exact Nat.le_trans (Nat.le_of_eq (by decide)) (Nat.zero_le n)
    · exact Nat.le_of_lt ((Nat.log2_lt h0).mpr hz)
  have h1 := lg a x h
  have h2 := lg b y k
  omega
theorem mulOk_lo {x y : Int} (h : Bd 2000000 x) (k : Bd 2000000 y) : mulM x y = .ok (x * y) := mulM_eq 2000000 2000000 h k
theorem Bd.of {a : Nat} {x : Int} (n : Nat) (h : -(n : Int) ≤ x) (h2 : x ≤ n) (h3 : n < 2 ^ a := by decide) : Bd a x := by
  unfold Bd
  omega
theorem modM_eq {x y : Int} (h : 0 < y) : modM x y = .ok (x % y) := gd_pos h
end
end Wk

set_option Elab.async false
set_option linter.all false
set_option maxRecDepth 100000
set_option maxHeartbeats 4000000
namespace Wk
open PySem PyProof.Rows L2
theorem mul_small {x y : Int} (h : -(10 ^ 60) ≤ x) (h2 : x ≤ 10 ^ 60) (k : -(10 ^ 60) ≤ y) (k2 : y ≤ 10 ^ 60) : mulM x y = .ok (x * y) :=
  mulM_eq 200 200 (Bd.of (10 ^ 60) (by omega) (by omega)) (Bd.of (10 ^ 60) (by omega) (by omega))
theorem mul_bd {x y a b : Int} (h : 0 ≤ x) (h2 : x ≤ a) (k : 0 ≤ y) (k2 : y ≤ b) : 0 ≤ x * y ∧ x * y ≤ a * b :=
  ⟨Int.mul_nonneg h k, Int.mul_le_mul h2 k2 k (by omega)⟩
theorem emod_bd (x : Int) {m : Int} (h : 0 < m) : 0 ≤ x % m ∧ x % m < m := ⟨Int.emod_nonneg _ (by omega), Int.emod_lt_of_pos _ h⟩
end Wk

set_option Elab.async false
set_option linter.all false
set_option maxRecDepth 100000
set_option maxHeartbeats 4000000
namespace Wk
open PySem PyProof.Rows L2
/-! ### rivers -/
structure Riv (r : List Int) (rk : Int → Int) : Prop where
  rng : ∀ i : Int, 0 ≤ i → i < r.length → gx r i = -1 ∨ (0 ≤ gx r i ∧ gx r i < r.length ∧ rk (gx r i) < rk i)
  rk0 : ∀ i : Int, 0 ≤ i → i < r.length → 0 ≤ rk i ∧ rk i < r.length
/-- a place of the river, or behind its mouth -/
def Pl (r : List Int) (i : Int) : Prop := i = -1 ∨ (0 ≤ i ∧ i < r.length)
theorem Riv.pl {r : List Int} {rk : Int → Int} (R : Riv r rk) {i : Int} (h0 : 0 ≤ i) (h : i < r.length) : Pl r (gx r i) := by
  rcases R.rng i h0 h with h | ⟨h1, h2, _⟩
  · exact .inl h
  · exact .inr ⟨h1, h2⟩
def wayF (r : List Int) : Nat → Int → List Int
  | 0, _ => []
  | n + 1, i => if i = -1 then [] else i :: wayF r n (gx r i)
def wayL (r : List Int) (i : Int) : List Int := wayF r r.length i
section
variable {r : List Int} {rk : Int → Int}
theorem wayF_same (R : Riv r rk) : ∀ (m m' : Nat) (i : Int), (i = -1 ∨ (0 ≤ i ∧ i < r.length ∧ rk i < m ∧ rk i < m')) → wayF r m i = wayF r m' i
  | 0, 0, _, _ => rfl
  | 0, m' + 1, i, h => by
    rcases h with h | ⟨h0, h1, h2, h3⟩
    · subst h; rfl
    · have := (R.rk0 i h0 h1).1
      omega
  | m + 1, 0, i, h => by
    rcases h with h | ⟨h0, h1, h2, h3⟩
    · subst h; rfl
    · have := (R.rk0 i h0 h1).1
      omega
  | m + 1, m' + 1, i, h => by
    unfold wayF
    by_cases e : i = -1
    · rw [if_pos e, if_pos e]
    · rw [if_neg e, if_neg e]
      rcases h with h | ⟨h0, h1, h2, h3⟩
      · exact absurd h e
      · rw [wayF_same R m m' (gx r i) ?_]
        rcases R.rng i h0 h1 with h | ⟨k0, k1, k2⟩
        · exact .inl h
        · exact .inr ⟨k0, k1, by omega, by omega⟩
theorem way_end : wayL r (-1) = [] := by
  unfold wayL
  cases r.length <;> rfl
theorem way_step (R : Riv r rk) {i : Int} (h0 : 0 ≤ i) (h : i < r.length) : wayL r i = i :: wayL r (gx r i) := by
  unfold wayL
  have h2 := R.rk0 i h0 h
  rw [wayF_same R r.length (r.length + 1) i (.inr ⟨h0, h, h2.2, by omega⟩)]
  show (if i = -1 then [] else i :: wayF r r.length (gx r i)) = _
  rw [if_neg (by omega)]
theorem Riv.ind (R : Riv r rk) {P : Int → Prop} (h1 : P (-1)) (h : ∀ i : Int, 0 ≤ i → i < r.length → P (gx r i) → P i) : ∀ i, Pl r i → P i := by
  have key : ∀ (n : Nat) (i : Int), 0 ≤ i → i < r.length → rk i < n → P i := by
    intro n
    induction n with
    | zero =>
      intro i h0 hi hr
      have := (R.rk0 i h0 hi).1
      omega
    | succ n ih =>
      intro i h0 hi hr
      refine h i h0 hi ?_
      rcases R.rng i h0 hi with e | ⟨a, b, c⟩
      · rw [e]; exact h1
      · exact ih _ a b (by omega)
  intro i hi
  rcases hi with e | ⟨a, b⟩
  · subst e; exact h1
  · exact key (rk i + 1).toNat i a b (by omega)
theorem way_len (R : Riv r rk) : ∀ i, Pl r i → (wayL r i).length ≤ r.length ∧ (0 ≤ i → ((wayL r i).length : Int) ≤ rk i + 1) := by
  refine R.ind ⟨by rw [way_end]; simp, fun h => by omega⟩ fun i h0 h ih => ?_
  rw [way_step R h0 h, List.length_cons]
  have h2 := R.rk0 i h0 h
  have h3 : ((wayL r (gx r i)).length : Int) ≤ rk i := by
    rcases R.rng i h0 h with e | ⟨a, b, c⟩
    · rw [e, way_end]
      simp
      omega
    · have := ih.2 a
      omega
  omega
theorem way_mem (R : Riv r rk) : ∀ i, Pl r i → ∀ j ∈ wayL r i, 0 ≤ j ∧ j < r.length := by
  refine R.ind (fun j hj => by rw [way_end] at hj; cases hj) fun i h0 h ih j hj => ?_
  rw [way_step R h0 h] at hj
  rcases List.mem_cons.mp hj with rfl | hj
  · exact ⟨h0, h⟩
  · exact ih j hj
/-- whose way is longer comes first -/
def lenW (r : List Int) (i : Int) : Int := (wayL r i).length
theorem lenW_step (R : Riv r rk) {i : Int} (h0 : 0 ≤ i) (h : i < r.length) : lenW r i = lenW r (gx r i) + 1 := by
  unfold lenW
  rw [way_step R h0 h, List.length_cons]
  omega
def keyW (r : List Int) (i : Int) : Int × Int := (0 - lenW r i, i)
def topsL (r : List Int) : List Int := (((rangeL 0 r.length).map (keyW r)).mergeSort leP).map (·.2)
theorem tops_perm (r : List Int) : (topsL r).Perm (rangeL 0 r.length) := by
  unfold topsL
  refine ((sort_pair _).1.map _).trans ?_
  rw [List.map_map]
  rw [show ((fun (x : Int × Int) => x.2) ∘ keyW r) = id from rfl, List.map_id]
theorem tops_len (r : List Int) : (topsL r).length = r.length := by
  rw [(tops_perm r).length_eq, rangeL_length]
  omega
theorem tops_mem {r : List Int} {i : Int} : i ∈ topsL r ↔ 0 ≤ i ∧ i < r.length := by rw [(tops_perm r).mem_iff, mem_rangeL]
theorem tops_sorted (r : List Int) : (topsL r).Pairwise fun a b => lenW r b < lenW r a ∨ (lenW r a = lenW r b ∧ a ≤ b) := by
  unfold topsL
  rw [List.pairwise_map]
  have h1 := (sort_pair ((rangeL 0 r.length).map (keyW r))).2
  have h2 : ∀ x ∈ ((rangeL 0 r.length).map (keyW r)).mergeSort leP, x = keyW r x.2 := fun x hx => by
    rw [(sort_pair _).1.mem_iff, List.mem_map] at hx
    obtain ⟨y, _, rfl⟩ := hx
    rfl
  refine h1.imp_of_mem fun {a b} ha hb h => ?_
  have ea := h2 a ha
  have eb := h2 b hb
  have e1 : a.1 = 0 - lenW r a.2 := congrArg Prod.fst ea
  have e2 : b.1 = 0 - lenW r b.2 := congrArg Prod.fst eb
  unfold leP at h
  simp only [Bool.or_eq_true, Bool.and_eq_true, decide_eq_true_eq] at h
  omega
theorem nodup_rangeL (a b : Int) : (rangeL a b).Nodup := by
  unfold rangeL
  refine List.Pairwise.map _ (fun x y h => ?_) List.nodup_range
  omega
theorem tops_nodup (r : List Int) : (topsL r).Nodup := (tops_perm r).nodup_iff.mpr (nodup_rangeL _ _)
theorem rangeL_sorted (a b : Int) : (rangeL a b).Pairwise (· ≤ ·) := by
  unfold rangeL
  rw [List.pairwise_map]
  exact List.pairwise_lt_range.imp fun h => by omega
theorem sorted_range {xs : List Int} {n : Int} (h : xs.Perm (rangeL 0 n)) : xs.mergeSort leI = rangeL 0 n := by
  obtain ⟨h1, h2⟩ := sort_int xs
  exact perm_sorted_eq (fun a b => Int.le_antisymm) (h1.trans h) h2 (rangeL_sorted _ _)
/-- what flows on comes behind -/
theorem tops_behind (R : Riv r rk) {i : Nat} {q : Int} (hq : (topsL r)[i]? = some q) (hb : gx r q ≠ -1) : gx r q ∉ (topsL r).take (i + 1) := fun hm => by
  have hmem := List.mem_of_getElem? hq
  obtain ⟨h0, h1⟩ := tops_mem.mp hmem
  obtain ⟨j, hj⟩ := List.mem_iff_getElem?.mp hm
  have hjl := getElem?_some_of hj
  rw [List.length_take] at hjl
  rw [List.getElem?_take_of_lt (by omega)] at hj
  have hs := lenW_step R h0 h1
  by_cases e : j = i
  · subst e
    rw [hq] at hj
    have e2 : q = gx r q := Option.some.inj hj
    rw [← e2] at hs
    omega
  · have hi := getElem?_some_of hq
    have hjl2 := getElem?_some_of hj
    have := (List.pairwise_iff_getElem.mp (tops_sorted r)) j i hjl2 hi (by omega)
    rw [List.getElem?_eq_getElem hi] at hq
    rw [List.getElem?_eq_getElem hjl2] at hj
    have e1 : (topsL r)[i] = q := Option.some.inj hq
    have e2 : (topsL r)[j] = gx r q := Option.some.inj hj
    rw [e1, e2] at this
    omega
end
/-! ### sums -/
/-- what comes in at p of those in l -/
def inS (r N : List Int) (l : List Int) (p : Int) : Int := ((l.filter fun q => decide (gx r q = p)).map (gx N)).sum
theorem perm_sum {l l' : List Int} (h : l.Perm l') : l.sum = l'.sum := by
  induction h with
  | nil => rfl
  | cons x _ ih => rw [List.sum_cons, List.sum_cons, ih]
  | swap x y l => rw [List.sum_cons, List.sum_cons, List.sum_cons, List.sum_cons]; omega
  | trans _ _ h1 h2 => exact h1.trans h2
theorem inS_perm {r N l l' : List Int} {p : Int} (h : l.Perm l') : inS r N l p = inS r N l' p := perm_sum ((h.filter _).map _)
theorem inS_snoc {r N l : List Int} {q p : Int} : inS r N (l ++ [q]) p = inS r N l p + if gx r q = p then gx N q else 0 := by
  unfold inS
  rw [List.filter_append, List.map_append, List.sum_append]
  by_cases h : gx r q = p
  · simp [h]
  · simp [h]
theorem inS_congr {r N N' l : List Int} {p : Int} (h : ∀ q ∈ l, gx N q = gx N' q) : inS r N l p = inS r N' l p := by
  unfold inS
  congr 1
  refine List.map_congr_left fun q hq => h q (List.mem_filter.mp hq).1
theorem inS_nil {r N : List Int} {p : Int} : inS r N [] p = 0 := rfl
theorem take_snoc {α : Type} {l : List α} {i : Nat} {q : α} (h : l[i]? = some q) : l.take (i + 1) = l.take i ++ [q] := by
  rw [List.take_add_one, h]
  rfl
end Wk

set_option Elab.async false
set_option linter.all false
set_option maxRecDepth 100000
set_option maxHeartbeats 4000000
namespace Wk
open PySem PyProof.Rows L2
theorem riv_of {found : List Int} {n : Nat} {P : Int → Int} (hl : found.length = n) (hr : ∀ k : Int, 0 ≤ k → k < n → 0 ≤ P k ∧ P k < n) (hi : ∀ j k : Int, 0 ≤ j → j < n → 0 ≤ k → k < n → P j = P k → j = k)
    (h : ∀ p : Int, 0 ≤ p → p < n → gx found p = -1 ∨ ∃ k u : Int, 0 ≤ u ∧ u < k ∧ k < n ∧ p = P k ∧ gx found p = P u) (hn : 0 < n) : ∃ rk, Riv found rk := by
  classical
  let rk : Int → Int := fun p => if hp : ∃ k : Int, 0 ≤ k ∧ k < n ∧ P k = p then Classical.choose hp else 0
  have hrk : ∀ k : Int, 0 ≤ k → k < n → rk (P k) = k := fun k h0 h1 => by
    have hp : ∃ j : Int, 0 ≤ j ∧ j < n ∧ P j = P k := ⟨k, h0, h1, rfl⟩
    show (if hp : ∃ j : Int, 0 ≤ j ∧ j < n ∧ P j = P k then Classical.choose hp else 0) = k
    rw [dif_pos hp]
    obtain ⟨a, b, c⟩ := Classical.choose_spec hp
    exact hi _ _ a b h0 h1 c
  refine ⟨rk, fun p h0 h1 => ?_, fun p h0 h1 => ?_⟩
  · rw [hl] at h1
    rcases h p h0 h1 with e | ⟨k, u, a, b, c, d, e⟩
    · exact .inl e
    · have := hr u a (by omega)
      rw [e, d, hrk k (by omega) c, hrk u a (by omega), hl]
      exact .inr ⟨this.1, this.2, b⟩
  · rw [hl]
    show 0 ≤ (if hp : ∃ k : Int, 0 ≤ k ∧ k < n ∧ P k = p then Classical.choose hp else 0) ∧ (if hp : ∃ k : Int, 0 ≤ k ∧ k < n ∧ P k = p then Classical.choose hp else 0) < (n : Int)
    by_cases hp : ∃ k : Int, 0 ≤ k ∧ k < n ∧ P k = p
    · rw [dif_pos hp]
      obtain ⟨a, b, c⟩ := Classical.choose_spec hp
      exact ⟨a, b⟩
    · rw [dif_neg hp]
      exact ⟨Int.le_refl 0, by omega⟩
theorem gx_inj {l : List Int} (hn : l.Nodup) {i j : Int} (h0 : 0 ≤ i) (h1 : i < l.length) (k0 : 0 ≤ j) (k1 : j < l.length) (e : gx l i = gx l j) : i = j := by
  have a := gx_get h0 h1
  have b := gx_get k0 k1
  rw [← e] at b
  have hi := getElem?_some_of a
  have hj := getElem?_some_of b
  rw [List.getElem?_eq_getElem hi] at a
  rw [List.getElem?_eq_getElem hj] at b
  have := (List.getElem_inj hn).mp ((Option.some.inj a).trans (Option.some.inj b).symm)
  omega
theorem rangeL_snoc (n : Nat) : rangeL 0 ((n : Int) + 1) = rangeL 0 n ++ [(n : Int)] := by
  unfold rangeL
  rw [show ((n : Int) + 1 - 0).toNat = n + 1 by omega, show ((n : Int) - 0).toNat = n by omega, List.range_succ, List.map_append]
  simp
theorem gx_rep {n : Nat} {a : Int} {i : Int} (h0 : 0 ≤ i) (h : i < n) : gx (List.replicate n a) i = a := by
  unfold gx
  rw [List.getD_eq_getElem?_getD, List.getElem?_replicate, if_pos (by omega)]
  rfl
theorem rep_flat {α : Type} (n : Nat) (a : α) : (List.replicate n [a]).flatten = List.replicate n a := by
  induction n with
  | zero => rfl
  | succ n ih => rw [List.replicate_succ, List.flatten_cons, ih]; rfl
theorem rep_eq {α : Type} {k : Int} {a : α} (h0 : 0 ≤ k) (h : k ≤ 16777216) : repM [a] k = .ok (List.replicate k.toNat a) := by
  have hs : ([a] : List α).length * k.toNat ≤ sizeLine := by
    rw [List.length_singleton, Nat.one_mul, sizeLine_eq]
    omega
  unfold repM
  rw [gd_pos ⟨by omega, by omega, hs⟩, rep_flat]
theorem cat_eq {α : Type} {xs ys : List α} (h : xs.length + ys.length ≤ 16777216) : catM xs ys = .ok (xs ++ ys) := gd_pos (small_line h)
theorem ins_eq {α : Type} {xs : List α} {i : Int} {y : α} (h : xs.length < 16777216) (h0 : 0 ≤ i) (h1 : i < 2 ^ 60) : insM xs i y = .ok (xs.take i.toNat ++ [y] ++ xs.drop i.toNat) := gd_pos ⟨small_lt h, h0, by omega⟩
theorem ins_perm {α : Type} (xs : List α) (n : Nat) (y : α) : (xs.take n ++ [y] ++ xs.drop n).Perm (xs ++ [y]) := by
  have h1 : (xs.take n ++ [y] ++ xs.drop n).Perm (y :: (xs.take n ++ xs.drop n)) := by
    rw [List.append_assoc]
    exact List.perm_middle
  rw [List.take_append_drop] at h1
  exact h1.trans (List.perm_append_comm (l₁ := [y]) (l₂ := xs))
theorem pow_eq {x : Int} {n : Nat} (h : x.natAbs < 2 ^ 64) : powM x n = .ok (x ^ n) := gd_pos h
theorem mem_of_gx {l : List Int} {i : Int} {n : Int} (hp : l.Perm (rangeL 0 n)) (h0 : 0 ≤ i) (h : i < l.length) : 0 ≤ gx l i ∧ gx l i < n := mem_rangeL.mp (hp.mem_iff.mp (gx_mem h0 h))
theorem rangeL_cons {a b : Int} (h : a < b) : rangeL a b = a :: rangeL (a + 1) b := by
  unfold rangeL
  rw [show (b - a).toNat = (b - (a + 1)).toNat + 1 by omega, List.range_succ_eq_map, List.map_cons, List.map_map]
  congr 1
  · simp
  · refine List.map_congr_left fun i _ => ?_
    show a + ((i.succ : Nat) : Int) = a + 1 + (i : Int)
    omega
theorem rangeL_nil {a b : Int} (h : b ≤ a) : rangeL a b = [] := by
  unfold rangeL
  rw [show (b - a).toNat = 0 by omega]
  rfl
/-- a walk over the numbers from a on, below b -/
theorem foldR_ok {S : Type} {a b : Int} (hab : a ≤ b) {s : S} {f : Int → S → Res S} (I : Int → S → Prop) (h0 : I a s) (hb : ∀ y s, a ≤ y → y < b → I y s → Ok (f y s) (I (y + 1))) : Ok (foldM (rangeL a b) s f) (I b) := by
  have key : ∀ (n : Nat) (a : Int) (s : S), a ≤ b → (b - a).toNat = n → I a s → (∀ y s, a ≤ y → y < b → I y s → Ok (f y s) (I (y + 1))) → Ok (foldM (rangeL a b) s f) (I b) := by
    intro n
    induction n with
    | zero =>
      intro a s hab hn h0 _
      have e : a = b := by omega
      subst e
      rw [rangeL_nil (Int.le_refl _)]
      exact h0
    | succ n ih =>
      intro a s hab hn h0 hb
      rw [rangeL_cons (by omega)]
      refine Ok.bi (hb a s (Int.le_refl _) (by omega) h0) fun s' h' => ?_
      exact ih (a + 1) s' (by omega) (by omega) h' fun y s h1 h2 h3 => hb y s (by omega) h2 h3
  exact key _ a s hab rfl h0 hb
theorem loopR_ok {S ρ : Type} {a b : Int} (hab : a ≤ b) {s : S} {B : Int → S → (S → Res ρ) → Res ρ} {k : S → Res ρ} {Q : ρ → Prop} (I : Int → S → Prop) (h0 : I a s) (hb : ∀ y s next, a ≤ y → y < b → I y s → (∀ s', I (y + 1) s' → Ok (next s') Q) → Ok (B y s next) Q) (hk : ∀ s, I b s → Ok (k s) Q) : Ok (loopC (rangeL a b) s B k) Q := by
  have key : ∀ (n : Nat) (a : Int) (s : S), a ≤ b → (b - a).toNat = n → I a s → (∀ y s next, a ≤ y → y < b → I y s → (∀ s', I (y + 1) s' → Ok (next s') Q) → Ok (B y s next) Q) → Ok (loopC (rangeL a b) s B k) Q := by
    intro n
    induction n with
    | zero =>
      intro a s hab hn h0 _
      have e : a = b := by omega
      subst e
      rw [rangeL_nil (Int.le_refl _)]
      exact hk s h0
    | succ n ih =>
      intro a s hab hn h0 hb
      rw [rangeL_cons (by omega)]
      refine hb a s _ (Int.le_refl _) (by omega) h0 fun s' h' => ?_
      exact ih (a + 1) s' (by omega) (by omega) h' fun y s next h1 h2 h3 h4 => hb y s next (by omega) h2 h3 h4
  exact key _ a s hab rfl h0 hb
end Wk

set_option Elab.async false
set_option linter.all false
set_option maxRecDepth 100000
set_option maxHeartbeats 4000000
namespace Wk
open PySem PyProof.Rows L2
/-! ### stretches -/
def strL (r : List Int) (start stop : Int) : List Int := (wayL r start).takeWhile fun y => !decide (y = stop)
theorem cut_pre {α : Type} (xs : List α) (j : Nat) : cutL xs none (some (j : Int)) = xs.take j := by
  unfold cutL
  rw [HT.sIx_nat]
  show (xs.drop 0).take (min j xs.length - 0) = _
  rw [List.drop_zero, Nat.sub_zero]
  by_cases h : j ≤ xs.length
  · rw [Nat.min_eq_left h]
  · rw [Nat.min_eq_right (by omega), List.take_of_length_le (Nat.le_refl _), List.take_of_length_le (by omega)]
theorem tw_all {α : Type} {f : α → Bool} : ∀ {xs : List α}, (∀ x ∈ xs, f x = true) → xs.takeWhile f = xs
  | [], _ => rfl
  | x :: xs, h => by
    rw [List.takeWhile_cons, if_pos (h x (List.mem_cons_self ..)), tw_all fun y hy => h y (List.mem_cons_of_mem _ hy)]
theorem take_first : ∀ {xs : List Int} {x : Int} {j : Nat}, xs[j]? = some x → (∀ m < j, ∀ z, xs[m]? = some z → z ≠ x) → xs.take j = xs.takeWhile fun y => !decide (y = x)
  | [], _, _, h, _ => by simp at h
  | y :: ys, x, 0, h, _ => by
    have e : y = x := by simpa using h
    subst e
    simp
  | y :: ys, x, j + 1, h, hn => by
    have h1 : y ≠ x := hn 0 (by omega) y rfl
    rw [List.take_succ_cons, List.takeWhile_cons, if_pos (by simpa using h1)]
    rw [take_first (xs := ys) (by simpa using h) fun m hm z hz => hn (m + 1) (by omega) z (by simpa using hz)]
theorem idx_take {xs : List Int} {x : Int} (h : x ∈ xs) : ∃ j : Nat, idxM xs x = .ok (j : Int) ∧ xs[j]? = some x ∧ xs.take j = xs.takeWhile fun y => !decide (y = x) := by
  unfold idxM
  cases e : xs.findIdx? (fun y => decide (y = x)) with
  | none =>
    rw [List.findIdx?_eq_none_iff] at e
    have := e x h
    simp at this
  | some j =>
    obtain ⟨h1, h2⟩ := find_some e
    exact ⟨j, rfl, h1, take_first h1 h2⟩
theorem cut_idx {xs : List Int} {x : Int} (h : x ∈ xs) : ((idxM xs x).bi fun i => Res.ok (cutL xs none (some i))) = .ok (xs.takeWhile fun y => !decide (y = x)) := by
  obtain ⟨j, h1, _, h3⟩ := idx_take h
  rw [h1, ok_bi, cut_pre, h3]
section
variable {r : List Int} {rk : Int → Int}
theorem way_ne (R : Riv r rk) {i : Int} (hi : Pl r i) : -1 ∉ wayL r i := fun h => by
  have := way_mem R i hi _ h
  omega
theorem str_end (R : Riv r rk) {i : Int} (hi : Pl r i) : strL r i (-1) = wayL r i := by
  unfold strL
  refine tw_all fun y hy => ?_
  have := way_mem R i hi y hy
  simp
  omega
theorem way_rk (R : Riv r rk) : ∀ i, Pl r i → ∀ j ∈ wayL r i, 0 ≤ i ∧ rk j ≤ rk i := by
  refine R.ind (fun j hj => by rw [way_end] at hj; cases hj) fun i h0 h ih j hj => ?_
  rw [way_step R h0 h] at hj
  rcases List.mem_cons.mp hj with rfl | hj
  · exact ⟨h0, Int.le_refl _⟩
  · have h1 := ih j hj
    rcases R.rng i h0 h with e | ⟨a, b, c⟩
    · omega
    · exact ⟨h0, by omega⟩
theorem way_not (R : Riv r rk) {i : Int} (h0 : 0 ≤ i) (h : i < r.length) : i ∉ wayL r (gx r i) := fun hm => by
  have h1 := way_rk R _ (R.pl h0 h) i hm
  rcases R.rng i h0 h with e | ⟨a, b, c⟩
  · omega
  · omega
theorem way_nodup (R : Riv r rk) : ∀ i, Pl r i → (wayL r i).Nodup := by
  refine R.ind (by rw [way_end]; exact List.nodup_nil) fun i h0 h ih => ?_
  rw [way_step R h0 h, List.nodup_cons]
  exact ⟨way_not R h0 h, ih⟩
theorem str_sub {i j : Int} : ∀ y ∈ strL r i j, y ∈ wayL r i := fun y hy => (List.takeWhile_sublist _).subset hy
end
end Wk

set_option Elab.async false
set_option linter.all false
set_option maxRecDepth 100000
set_option maxHeartbeats 4000000
namespace Wk
open PySem PyProof.Rows L2
/-! ### sums over places -/
def sumR (n : Nat) (f : Int → Int) : Int := ((rangeL 0 n).map f).sum
theorem sum_map_add {α : Type} (l : List α) (f g : α → Int) : (l.map fun x => f x + g x).sum = (l.map f).sum + (l.map g).sum := by
  induction l with
  | nil => rfl
  | cons x l ih => simp only [List.map_cons, List.sum_cons, ih]; omega
theorem sum_map_sub {α : Type} (l : List α) (f g : α → Int) : (l.map fun x => f x - g x).sum = (l.map f).sum - (l.map g).sum := by
  induction l with
  | nil => rfl
  | cons x l ih => simp only [List.map_cons, List.sum_cons, ih]; omega
theorem sum_map_zero {α : Type} {l : List α} {f : α → Int} (h : ∀ x ∈ l, f x = 0) : (l.map f).sum = 0 := by
  induction l with
  | nil => rfl
  | cons x l ih =>
    rw [List.map_cons, List.sum_cons, h x (List.mem_cons_self ..), ih fun y hy => h y (List.mem_cons_of_mem _ hy)]
    rfl
theorem sum_map_one {l : List Int} (hn : l.Nodup) {i : Int} (hi : i ∈ l) {f : Int → Int} (h : ∀ x ∈ l, x ≠ i → f x = 0) : (l.map f).sum = f i := by
  induction l with
  | nil => cases hi
  | cons x l ih =>
    rw [List.nodup_cons] at hn
    rw [List.map_cons, List.sum_cons]
    by_cases e : x = i
    · subst e
      rw [sum_map_zero fun y hy => h y (List.mem_cons_of_mem _ hy) fun z => hn.1 (z ▸ hy)]
      omega
    · have hi : i ∈ l := by
        rcases List.mem_cons.mp hi with z | z
        · exact absurd z.symm e
        · exact z
      rw [h x (List.mem_cons_self ..) e, ih hn.2 hi fun y hy => h y (List.mem_cons_of_mem _ hy)]
      omega
theorem sum_congr {α : Type} {l : List α} {f g : α → Int} (h : ∀ x ∈ l, f x = g x) : (l.map f).sum = (l.map g).sum := congrArg List.sum (List.map_congr_left h)
theorem inS_map {r N : List Int} {p : Int} (l : List Int) : inS r N l p = (l.map fun q => if gx r q = p then gx N q else 0).sum := by
  unfold inS
  induction l with
  | nil => rfl
  | cons x l ih =>
    rw [List.filter_cons, List.map_cons, List.sum_cons]
    by_cases h : gx r x = p
    · rw [if_pos (by simpa using h), if_pos h, List.map_cons, List.sum_cons, ih]
    · rw [if_neg (by simpa using h), if_neg h, ih]
      omega
theorem sum_gx (xs : List Int) : sumR xs.length (gx xs) = xs.sum := by
  unfold sumR
  congr 1
  refine ext_gx (by rw [List.length_map, rangeL_length]; omega) fun i h0 h1 => ?_
  rw [List.length_map, rangeL_length] at h1
  rw [gx_map h0 (by rw [rangeL_length]; omega), gx_rangeL h0 (by omega)]
  congr 1
  omega
theorem sum_set : ∀ {xs : List Int} {n : Nat} {a : Int} {b : Int}, xs[n]? = some b → (xs.set n a).sum = xs.sum - b + a
  | [], _, _, _, h => by simp at h
  | x :: xs, 0, a, b, h => by
    have e : x = b := by simpa using h
    subst e
    simp only [List.set_cons_zero, List.sum_cons]
    omega
  | x :: xs, n + 1, a, b, h => by
    have := sum_set (xs := xs) (n := n) (a := a) (b := b) (by simpa using h)
    simp only [List.set_cons_succ, List.sum_cons, this]
    omega
theorem sum_set_gx {xs : List Int} {i a : Int} (h0 : 0 ≤ i) (h : i < xs.length) : (xs.set i.toNat a).sum = xs.sum - gx xs i + a := sum_set (gx_get h0 h)
/-! ### licences -/
abbrev Lic := Int × Int × Int × Int
/-- a licence at a river -/
def LicOk (r : List Int) (o : Lic) : Prop := 0 ≤ o.2.1 ∧ o.2.1 < r.length ∧ (o.2.2.1 = -1 ∨ o.2.2.1 ∈ wayL r o.2.1)
def lstr (r : List Int) (o : Lic) : List Int := strL r o.2.1 o.2.2.1
section
variable {r : List Int} {rk : Int → Int}
theorem str_self {i : Int} : strL r i i = [] := by
  unfold strL wayL
  cases h : r.length with
  | zero => rfl
  | succ n =>
    unfold wayF
    by_cases e : i = -1
    · rw [if_pos e]; rfl
    · rw [if_neg e, List.takeWhile_cons, if_neg (by simp)]
theorem str_step (R : Riv r rk) {i j : Int} (h0 : 0 ≤ i) (h : i < r.length) (e : i ≠ j) : strL r i j = i :: strL r (gx r i) j := by
  unfold strL
  rw [way_step R h0 h, List.takeWhile_cons, if_pos (by simpa using e)]
/-- what a stretch holds comes in from above, or starts, and goes on, or comes back -/
theorem str_flow (R : Riv r rk) (t : Int) {p : Int} (hp : 0 ≤ p) : ∀ i, Pl r i → ∀ j, (j = -1 ∨ j ∈ wayL r i) →
    (if p ∈ strL r i j then t else 0) = sumR r.length (fun q => if gx r q = p then (if q ∈ strL r i j then t else 0) else 0) + (if i = p then t else 0) - (if j = p then t else 0) := by
  refine R.ind (fun j hj => ?_) fun i h0 h ih j hj => ?_
  · have e : strL r (-1) j = [] := by
      unfold strL
      rw [way_end]
      rfl
    have ej : j = -1 := by
      rcases hj with h | h
      · exact h
      · rw [way_end] at h
        cases h
    subst ej
    rw [e, if_neg (by simp), if_neg (by omega)]
    rw [show sumR r.length _ = 0 from sum_map_zero fun q _ => by simp]
    rfl
  · by_cases e : i = j
    · subst e
      rw [str_self, if_neg (by simp), show sumR r.length _ = 0 from sum_map_zero fun q _ => by simp]
      omega
    · have hj' : j = -1 ∨ j ∈ wayL r (gx r i) := by
        rcases hj with h | h
        · exact .inl h
        · rw [way_step R h0 (by omega)] at h
          rcases List.mem_cons.mp h with z | z
          · exact absurd z.symm e
          · exact .inr z
      have ih := ih j hj'
      have hni : i ∉ strL r (gx r i) j := fun z => way_not R h0 h (str_sub _ z)
      rw [str_step R h0 h e]
      have hsum : sumR r.length (fun q => if gx r q = p then (if q ∈ i :: strL r (gx r i) j then t else 0) else 0) =
          sumR r.length (fun q => if gx r q = p then (if q ∈ strL r (gx r i) j then t else 0) else 0) + (if gx r i = p then t else 0) := by
        unfold sumR
        rw [show (if gx r i = p then t else 0) = ((rangeL 0 r.length).map fun q => if q = i then (if gx r i = p then t else 0) else 0).sum from ?_]
        · rw [← sum_map_add]
          refine sum_congr fun q _ => ?_
          by_cases eq : q = i
          · subst eq
            rw [if_pos rfl]
            by_cases e2 : gx r q = p
            · rw [if_pos e2, if_pos e2, if_pos e2, if_pos (List.mem_cons_self ..), if_neg hni]
              omega
            · rw [if_neg e2, if_neg e2, if_neg e2]
              rfl
          · rw [if_neg eq]
            have : (q ∈ i :: strL r (gx r i) j) = (q ∈ strL r (gx r i) j) := by
              simp [eq]
            simp only [this]
            omega
        · rw [sum_map_one (nodup_rangeL _ _) (mem_rangeL.mpr ⟨h0, h⟩) fun x _ hx => if_neg hx, if_pos rfl]
      rw [hsum]
      by_cases ep : p = i
      · subst ep
        rw [if_pos (List.mem_cons_self ..), if_pos rfl]
        rw [if_neg hni] at ih
        omega
      · have : (p ∈ i :: strL r (gx r i) j) = (p ∈ strL r (gx r i) j) := by simp [ep]
        simp only [this]
        rw [if_neg (show ¬i = p from fun z => ep z.symm)]
        omega
/-- the drops that some hold at a reach -/
def hS (r : List Int) (p : Int) (zs : List (Lic × Int)) : Int := (zs.map fun z => if p ∈ lstr r z.1 then z.2 else 0).sum
def stS (p : Int) (zs : List (Lic × Int)) : Int := (zs.map fun z => if z.1.2.1 = p then z.2 else 0).sum
def bkS (p : Int) (zs : List (Lic × Int)) : Int := (zs.map fun z => if z.1.2.2.1 = p then z.2 else 0).sum
theorem hS_flow (R : Riv r rk) {p : Int} (hp : 0 ≤ p) : ∀ zs : List (Lic × Int), (∀ z ∈ zs, LicOk r z.1) →
    hS r p zs = sumR r.length (fun q => if gx r q = p then hS r q zs else 0) + stS p zs - bkS p zs
  | [], _ => by
    rw [show sumR r.length _ = 0 from sum_map_zero fun q _ => by simp [hS]]
    rfl
  | z :: zs, h => by
    have ih := hS_flow R hp zs fun y hy => h y (List.mem_cons_of_mem _ hy)
    obtain ⟨a, b, c⟩ := h z (List.mem_cons_self ..)
    have h1 := str_flow R z.2 hp z.1.2.1 (.inr ⟨a, b⟩) z.1.2.2.1 c
    have h2 : sumR r.length (fun q => if gx r q = p then hS r q (z :: zs) else 0) = sumR r.length (fun q => if gx r q = p then (if q ∈ strL r z.1.2.1 z.1.2.2.1 then z.2 else 0) else 0) + sumR r.length (fun q => if gx r q = p then hS r q zs else 0) := by
      unfold sumR
      rw [← sum_map_add]
      refine sum_congr fun q _ => ?_
      by_cases e : gx r q = p
      · rw [if_pos e, if_pos e, if_pos e]
        unfold hS lstr
        rw [List.map_cons, List.sum_cons]
      · rw [if_neg e, if_neg e, if_neg e]
        rfl
    rw [h2]
    unfold stS bkS at ih ⊢
    unfold hS lstr at ih ⊢
    simp only [List.map_cons, List.sum_cons]
    omega
end
end Wk

set_option Elab.async false
set_option linter.all false
set_option maxRecDepth 100000
set_option maxHeartbeats 4000000
namespace Wk
open PySem PyProof.Rows L2
/-! ### what rises above a reach -/
/-- what rises at the reaches whose way meets p -/
def upS (r s : List Int) (p : Int) : Int := sumR r.length fun q => if p ∈ wayL r q then gx s q else 0
section
variable {r : List Int} {rk : Int → Int}
theorem sumR_congr {n : Nat} {f g : Int → Int} (h : ∀ q : Int, 0 ≤ q → q < n → f q = g q) : sumR n f = sumR n g := sum_congr fun q hq => by
  have := mem_rangeL.mp hq
  exact h q this.1 this.2
theorem sumR_add {n : Nat} {f g : Int → Int} : sumR n (fun q => f q + g q) = sumR n f + sumR n g := sum_map_add _ f g
theorem sumR_sub {n : Nat} {f g : Int → Int} : sumR n (fun q => f q - g q) = sumR n f - sumR n g := sum_map_sub _ f g
theorem sumR_one {n : Nat} {f : Int → Int} {i : Int} (h0 : 0 ≤ i) (h1 : i < n) (h : ∀ q : Int, 0 ≤ q → q < n → q ≠ i → f q = 0) : sumR n f = f i := sum_map_one (nodup_rangeL _ _) (mem_rangeL.mpr ⟨h0, h1⟩) fun x hx hn => by
  have := mem_rangeL.mp hx
  exact h x this.1 this.2 hn
theorem sumR_zero {n : Nat} {f : Int → Int} (h : ∀ q : Int, 0 ≤ q → q < n → f q = 0) : sumR n f = 0 := sum_map_zero fun x hx => by
  have := mem_rangeL.mp hx
  exact h x this.1 this.2
theorem sum_sum_comm {α β : Type} (l : List α) (m : List β) (f : α → β → Int) : (l.map fun x => (m.map (f x)).sum).sum = (m.map fun y => (l.map fun x => f x y).sum).sum := by
  induction l with
  | nil => simp; exact (sum_map_zero fun _ _ => rfl).symm
  | cons a l ih =>
    simp only [List.map_cons, List.sum_cons]
    rw [ih, ← sum_map_add]
theorem inS_sumR {N : List Int} {p : Int} : inS r N (rangeL 0 r.length) p = sumR r.length fun q => if gx r q = p then gx N q else 0 := inS_map _
theorem upS_step (R : Riv r rk) {s : List Int} {p : Int} (h0 : 0 ≤ p) (h1 : p < r.length) : upS r s p = gx s p + sumR r.length fun u => if gx r u = p then upS r s u else 0 := by
  have e1 : ∀ q : Int, 0 ≤ q → q < r.length → (if p ∈ wayL r q then gx s q else 0) = (sumR r.length fun u => if gx r u = p then (if u ∈ wayL r q then gx s q else 0) else 0) + (if q = p then gx s q else 0) := fun q q0 q1 => by
    have := str_flow R (gx s q) h0 q (.inr ⟨q0, q1⟩) (-1) (.inl rfl)
    rw [str_end R (.inr ⟨q0, q1⟩), if_neg (show ¬(-1 : Int) = p by omega)] at this
    omega
  unfold upS
  rw [sumR_congr e1, sumR_add, sumR_one (i := p) h0 h1 fun q _ _ hq => if_neg hq, if_pos rfl]
  have e2 : (sumR r.length fun q => sumR r.length fun u => if gx r u = p then (if u ∈ wayL r q then gx s q else 0) else 0) = sumR r.length fun u => if gx r u = p then sumR r.length (fun q => if u ∈ wayL r q then gx s q else 0) else 0 := by
    unfold sumR
    rw [sum_sum_comm]
    refine sum_congr fun u _ => ?_
    by_cases e : gx r u = p
    · simp only [if_pos e]
    · simp only [if_neg e]
      exact sum_map_zero fun _ _ => rfl
  rw [e2]
  omega
/-- what flows in from above, and nothing else, is nothing -/
theorem flow_zero (R : Riv r rk) {D : Int → Int} (h : ∀ p : Int, 0 ≤ p → p < r.length → D p = sumR r.length fun u => if gx r u = p then D u else 0) : ∀ p : Int, 0 ≤ p → p < r.length → D p = 0 := by
  have key : ∀ (n : Nat) (p : Int), 0 ≤ p → p < r.length → (r.length : Int) - rk p ≤ n → D p = 0 := by
    intro n
    induction n with
    | zero =>
      intro p h0 h1 hr
      have := (R.rk0 p h0 h1).2
      omega
    | succ n ih =>
      intro p h0 h1 hr
      rw [h p h0 h1]
      refine sumR_zero fun u u0 u1 => ?_
      split
      · rename_i e
        refine ih u u0 u1 ?_
        rcases R.rng u u0 u1 with z | ⟨_, _, z⟩
        · omega
        · rw [e] at z
          omega
      · rfl
  exact fun p h0 h1 => key ((r.length : Int) - rk p).toNat p h0 h1 (by omega)
/-- the flow that meets at each reach -/
theorem flow_uniq (R : Riv r rk) {N M g : Int → Int} (hN : ∀ p : Int, 0 ≤ p → p < r.length → N p = g p + sumR r.length fun u => if gx r u = p then N u else 0) (hM : ∀ p : Int, 0 ≤ p → p < r.length → M p = g p + sumR r.length fun u => if gx r u = p then M u else 0) : ∀ p : Int, 0 ≤ p → p < r.length → N p = M p := fun p h0 h1 => by
  have := flow_zero R (D := fun p => N p - M p) (fun p h0 h1 => by
    have e : (sumR r.length fun u => if gx r u = p then N u - M u else 0) = (sumR r.length fun u => if gx r u = p then N u else 0) - sumR r.length fun u => if gx r u = p then M u else 0 := by
      rw [← sumR_sub]
      refine sumR_congr fun q _ _ => ?_
      split <;> omega
    rw [e, hN p h0 h1, hM p h0 h1]
    omega) p h0 h1
  have this : N p - M p = 0 := this
  omega
theorem nat_up (R : Riv r rk) {s N : List Int} (hN : ∀ p : Int, 0 ≤ p → p < r.length → gx N p = gx s p + inS r N (rangeL 0 r.length) p) : ∀ p : Int, 0 ≤ p → p < r.length → gx N p = upS r s p :=
  flow_uniq R (g := gx s) (fun p h0 h1 => by rw [hN p h0 h1, inS_sumR]) fun p h0 h1 => upS_step R h0 h1
end
/-! ### drops in order -/
abbrev Drop := Int × Int × Int
/-- one drop ahead of another one -/
def dlt (a b : Drop) : Prop := a.1 < b.1 ∨ (a.1 = b.1 ∧ (a.2.1 < b.2.1 ∨ (a.2.1 = b.2.1 ∧ a.2.2 < b.2.2)))
instance (a b : Drop) : Decidable (dlt a b) := inferInstanceAs (Decidable (_ ∨ _))
def dle (a b : Drop) : Prop := ¬ dlt b a
theorem dlt_trans {a b c : Drop} (h : dlt a b) (k : dlt b c) : dlt a c := by unfold dlt at *; omega
theorem dle_lt {a b c : Drop} (h : dle a b) (k : dlt b c) : dlt a c := by unfold dle dlt at *; omega
theorem dle_refl (a : Drop) : dle a a := by unfold dle dlt; omega
theorem dle_of_lt {a b : Drop} (h : dlt a b) : dle a b := by unfold dle dlt at *; omega
theorem dle_trans {a b c : Drop} (h : dle a b) (k : dle b c) : dle a c := by unfold dle dlt at *; omega
/-- who holds drops at a reach -/
def Qual (r : List Int) (roll : List Lic) (takes : List Int) (p k : Int) : Prop := 0 ≤ k ∧ k < roll.length ∧ 0 < gx takes k ∧ p ∈ lstr r (gx roll k)
def trp (roll : List Lic) (takes : List Int) (k : Int) : Drop := ((gx roll k).1, gx takes k, k)
/-- the last drop held at a reach -/
def LastOk (r : List Int) (roll : List Lic) (takes : List Int) (p : Int) : Option Drop → Prop
  | none => ∀ k, ¬ Qual r roll takes p k
  | some m => (∃ k, Qual r roll takes p k ∧ m = trp roll takes k) ∧ ∀ k, Qual r roll takes p k → dle (trp roll takes k) m
/-- the last drop, if any, comes ahead -/
def ahd (o : Option Drop) (d : Drop) : Prop := match o with
  | none => True
  | some m => dlt m d
instance (o : Option Drop) (d : Drop) : Decidable (ahd o d) := match o with
  | none => isTrue trivial
  | some m => inferInstanceAs (Decidable (dlt m d))
/-- all that is held at a reach comes ahead of a drop -/
def Ahd (r : List Int) (roll : List Lic) (takes : List Int) (p : Int) (d : Drop) : Prop := ∀ k, Qual r roll takes p k → dlt (trp roll takes k) d
noncomputable instance (r : List Int) (roll : List Lic) (takes : List Int) (p : Int) (d : Drop) : Decidable (Ahd r roll takes p d) := Classical.propDecidable _
/-- all that is held comes ahead of a drop -/
theorem last_ahead {r : List Int} {roll : List Lic} {takes : List Int} {p : Int} {o : Option Drop} {d : Drop} (h : LastOk r roll takes p o) : ahd o d ↔ Ahd r roll takes p d := by
  cases o with
  | none => exact ⟨fun _ k hk => absurd hk (h k), fun _ => trivial⟩
  | some m =>
    obtain ⟨⟨k, hk, e⟩, h2⟩ := h
    exact ⟨fun hm j hj => dle_lt (h2 j hj) hm, fun hm => e ▸ hm k hk⟩
/-! ### walks with sums, walks with tests -/
theorem addG {f : Int → List Int → Res (List Int)} (t : Int) (hf : ∀ (y : Int) (s : List Int), 0 ≤ y → y < s.length → f y s = .ok (s.set y.toNat (gx s y + t))) : ∀ {l W : List Int}, l.Nodup → (∀ q ∈ l, 0 ≤ q ∧ q < W.length) → Ok (foldM l W f) fun W' => W'.length = W.length ∧ ∀ p : Int, 0 ≤ p → gx W' p = gx W p + if p ∈ l then t else 0
  | [], W, _, _ => ⟨rfl, fun p _ => by rw [if_neg (by simp)]; omega⟩
  | q :: l, W, hn, hl => by
    rw [List.nodup_cons] at hn
    obtain ⟨q0, q1⟩ := hl q (List.mem_cons_self ..)
    show Ok ((f q W).bi _) _
    rw [hf q W q0 q1, okb]
    have hset : (W.set q.toNat (gx W q + t)).length = W.length := List.length_set ..
    refine Ok.imp (addG t hf hn.2 fun y hy => by rw [hset]; exact hl y (List.mem_cons_of_mem _ hy)) fun W' hW => ⟨hW.1.trans hset, fun p h0 => ?_⟩
    rw [hW.2 p h0, gx_set q0 h0 q1]
    by_cases e : p = q
    · subst e
      rw [if_pos rfl, if_neg hn.1, if_pos (List.mem_cons_self ..)]
      omega
    · rw [if_neg e]
      have : (p ∈ q :: l) = (p ∈ l) := by simp [e]
      simp only [this]
theorem loopC_all2 {α : Type} {l : List α} {P : α → Bool} {B : α → Unit → (Unit → Res Bool) → Res Bool} {k : Unit → Res Bool} (h : ∀ y ∈ l, ∀ next, B y () next = if P y then next () else .ok false) : loopC l () B k = if l.all P then k () else .ok false := by
  induction l with
  | nil => rfl
  | cons x r ih =>
    show B x () _ = _
    rw [h x (List.mem_cons_self ..), List.all_cons]
    cases e : P x with
    | false => rfl
    | true =>
      rw [if_pos rfl, Bool.true_and]
      exact ih fun y hy => h y (List.mem_cons_of_mem _ hy)
/-- .. where each turn goes on -/
theorem loopC_true {α : Type} {l : List α} {B : α → Unit → (Unit → Res Bool) → Res Bool} {k : Unit → Res Bool} (h : ∀ y ∈ l, ∀ next, B y () next = next ()) : loopC l () B k = k () := by
  induction l with
  | nil => rfl
  | cons x r ih =>
    show B x () _ = _
    rw [h x (List.mem_cons_self ..)]
    exact ih fun y hy => h y (List.mem_cons_of_mem _ hy)
theorem enum_mem {α : Type} [Inhabited α] {xs : List α} {y : Int × α} (h : y ∈ enumL xs) : 0 ≤ y.1 ∧ y.1 < xs.length ∧ y.2 = gx xs y.1 := by
  obtain ⟨i, hi⟩ := List.mem_iff_getElem?.mp h
  obtain ⟨h1, h2⟩ := enumL_get hi
  have := getElem?_some_of h2
  exact ⟨by omega, by omega, by rw [h1]; exact (gx_nat h2).symm⟩
theorem mem_enum {α : Type} [Inhabited α] {xs : List α} {k : Int} (h0 : 0 ≤ k) (h1 : k < xs.length) : (k, gx xs k) ∈ enumL xs := by
  have h := gx_get h0 h1
  unfold enumL
  rw [List.mem_map]
  refine ⟨(gx xs k, k.toNat), ?_, by simp; omega⟩
  rw [List.mem_iff_getElem?]
  refine ⟨k.toNat, ?_⟩
  rw [List.getElem?_zipIdx, h]
  simp
theorem sumR_succ {n : Nat} {f : Int → Int} : sumR (n + 1) f = sumR n f + f n := by
  unfold sumR
  have := rangeL_snoc n
  rw [show (((n + 1 : Nat)) : Int) = (n : Int) + 1 by omega, this, List.map_append, List.sum_append]
  simp
end Wk

set_option Elab.async false
set_option linter.all false
set_option maxRecDepth 100000
set_option maxHeartbeats 4000000
namespace Wk
open PySem PyProof.Rows L2
/-! ### what is held, by numbers -/
def hR (r : List Int) (roll : List Lic) (t : List Int) (p : Int) : Int := sumR roll.length fun k => if p ∈ lstr r (gx roll k) then gx t k else 0
theorem hR_set {r : List Int} {roll : List Lic} {t : List Int} (hl : t.length = roll.length) {k v : Int} (k0 : 0 ≤ k) (k1 : k < roll.length) (p : Int) : hR r roll (t.set k.toNat v) p = hR r roll t p + if p ∈ lstr r (gx roll k) then v - gx t k else 0 := by
  unfold hR
  have e : ∀ j : Int, 0 ≤ j → j < roll.length → (if p ∈ lstr r (gx roll j) then gx (t.set k.toNat v) j else 0) = (if p ∈ lstr r (gx roll j) then gx t j else 0) + (if j = k then (if p ∈ lstr r (gx roll k) then v - gx t k else 0) else 0) := fun j j0 j1 => by
    rw [gx_set k0 j0 (by omega)]
    by_cases ej : j = k
    · rw [if_pos ej, if_pos ej, ej]
      split <;> omega
    · rw [if_neg ej, if_neg ej]
      omega
  rw [sumR_congr e, sumR_add, sumR_one (i := k) k0 k1 fun q _ _ hq => if_neg hq, if_pos rfl]
theorem zip_gx {α β : Type} [Inhabited α] [Inhabited β] {xs : List α} {ys : List β} {i : Int} (h0 : 0 ≤ i) (h1 : i < xs.length) (h2 : i < ys.length) : gx (xs.zip ys) i = (gx xs i, gx ys i) := by
  have a := gx_get h0 h1
  have b := gx_get h0 h2
  have c : (xs.zip ys)[i.toNat]? = some (gx xs i, gx ys i) := by
    rw [List.getElem?_zip_eq_some]
    exact ⟨a, b⟩
  have d := gx_get (xs := xs.zip ys) h0 (by rw [List.length_zip]; omega)
  rw [c] at d
  exact (Option.some.inj d).symm
theorem map_range_gx {α : Type} [Inhabited α] (xs : List α) : (rangeL 0 xs.length).map (gx xs) = xs := by
  have hl : ((rangeL 0 (xs.length : Int)).map (gx xs)).length = xs.length := by
    rw [List.length_map, rangeL_length]; omega
  refine ext_gx hl fun i h0 h1 => ?_
  rw [hl] at h1
  rw [gx_map h0 (by rw [rangeL_length]; omega), gx_rangeL h0 (by omega), Int.zero_add]
theorem hS_hR {r : List Int} {roll : List Lic} {t : List Int} (hl : t.length = roll.length) (p : Int) : hS r p (roll.zip t) = hR r roll t p := by
  unfold hS hR sumR
  have e := map_range_gx (roll.zip t)
  rw [← e, List.map_map]
  have hz : (roll.zip t).length = roll.length := by rw [List.length_zip]; omega
  rw [hz]
  refine sum_congr fun k hk => ?_
  have hk := mem_rangeL.mp hk
  show (if p ∈ lstr r (gx (roll.zip t) k).1 then (gx (roll.zip t) k).2 else 0) = _
  rw [zip_gx hk.1 hk.2 (by omega)]
theorem sumR_nonneg {n : Nat} {f : Int → Int} (h : ∀ q : Int, 0 ≤ q → q < n → 0 ≤ f q) : 0 ≤ sumR n f := by
  induction n with
  | zero => exact Int.le_refl _
  | succ n ih =>
    rw [sumR_succ]
    have h1 := ih fun q h0 h1 => h q h0 (by omega)
    have h2 := h n (by omega) (by omega)
    omega
theorem sumR_le {n : Nat} {f g : Int → Int} (h : ∀ q : Int, 0 ≤ q → q < n → f q ≤ g q) : sumR n f ≤ sumR n g := by
  have := sumR_nonneg (n := n) (f := fun q => g q - f q) fun q h0 h1 => by have := h q h0 h1; omega
  rw [sumR_sub] at this
  omega
theorem sumR_ge_one {n : Nat} {f : Int → Int} {i : Int} (h0 : 0 ≤ i) (h1 : i < n) (h : ∀ q : Int, 0 ≤ q → q < n → 0 ≤ f q) : f i ≤ sumR n f := by
  have e : sumR n (fun q => if q = i then f i else 0) = f i := by rw [sumR_one (i := i) h0 h1 fun q _ _ hq => if_neg hq, if_pos rfl]
  have := sumR_le (n := n) (f := fun q => if q = i then f i else 0) (g := f) fun q q0 q1 => by
    split
    · rename_i e; rw [e]; exact Int.le_refl _
    · exact h q q0 q1
  omega
theorem upS_nonneg {r s : List Int} (h : ∀ q : Int, 0 ≤ q → q < r.length → 0 ≤ gx s q) (p : Int) : 0 ≤ upS r s p := sumR_nonneg fun q h0 h1 => by
  split
  · exact h q h0 h1
  · exact Int.le_refl _
/-- a dealing -/
structure Dealt (r s : List Int) (roll : List Lic) (w t : List Int) : Prop where
  len : t.length = roll.length
  bd : ∀ k : Int, 0 ≤ k → k < roll.length → 0 ≤ gx t k ∧ gx t k ≤ gx w k
  fit : ∀ p : Int, 0 ≤ p → p < r.length → hR r roll t p ≤ upS r s p
  sh : ∀ k : Int, 0 ≤ k → k < roll.length → gx t k = gx w k ∨ ∃ p ∈ lstr r (gx roll k), hR r roll t p = upS r s p ∧ Ahd r roll t p ((gx roll k).1, gx t k + 1, k)
/-! ### the numbers by days -/
def dayOf (roll : List Lic) (k : Int) : Int := (gx roll k).1
def rankedL (roll : List Lic) : List Int := ((((enumL roll).map fun (y1 : Int × Lic) => (y1.2.1, y1.1)).mergeSort leP).map fun y3 => y3.2)
theorem enum_fst {α : Type} (xs : List α) : (enumL xs).map (·.1) = rangeL 0 xs.length := by
  refine ext_gx (by rw [List.length_map, enumL_length, rangeL_length]; omega) fun i h0 h1 => ?_
  rw [List.length_map, enumL_length] at h1
  have hl : (i.toNat) < (enumL xs).length := by rw [enumL_length]; omega
  have hg : (enumL xs)[i.toNat]? = some ((enumL xs)[i.toNat]) := List.getElem?_eq_getElem hl
  have h2 := (enumL_get hg).1
  rw [gx_rangeL h0 (by omega)]
  have : ((enumL xs).map (·.1))[i.toNat]? = some (((enumL xs)[i.toNat]).1) := by rw [List.getElem?_map, hg]; rfl
  have h3 := gx_get (xs := (enumL xs).map (·.1)) h0 (by rw [List.length_map, enumL_length]; exact h1)
  rw [this] at h3
  rw [← Option.some.inj h3, h2]
  omega
theorem ranked_perm (roll : List Lic) : (rankedL roll).Perm (rangeL 0 roll.length) := by
  unfold rankedL
  refine ((sort_pair _).1.map _).trans ?_
  rw [List.map_map]
  rw [← enum_fst roll]
  exact List.Perm.refl _
theorem ranked_nodup (roll : List Lic) : (rankedL roll).Nodup := (ranked_perm roll).nodup_iff.mpr (nodup_rangeL _ _)
theorem ranked_mem {roll : List Lic} {k : Int} : k ∈ rankedL roll ↔ 0 ≤ k ∧ k < roll.length := by rw [(ranked_perm roll).mem_iff, mem_rangeL]
theorem ranked_sorted (roll : List Lic) : (rankedL roll).Pairwise fun a b => dayOf roll a < dayOf roll b ∨ (dayOf roll a = dayOf roll b ∧ a < b) := by
  have h0 : (rankedL roll).Pairwise fun a b => dayOf roll a < dayOf roll b ∨ (dayOf roll a = dayOf roll b ∧ a ≤ b) := by
    unfold rankedL
    rw [List.pairwise_map]
    have h1 := (sort_pair ((enumL roll).map fun (y1 : Int × Lic) => (y1.2.1, y1.1))).2
    have h2 : ∀ x ∈ ((enumL roll).map fun (y1 : Int × Lic) => (y1.2.1, y1.1)).mergeSort leP, x.1 = dayOf roll x.2 := fun x hx => by
      rw [(sort_pair _).1.mem_iff, List.mem_map] at hx
      obtain ⟨y, hy, rfl⟩ := hx
      obtain ⟨a, b, c⟩ := enum_mem hy
      show y.2.1 = (gx roll y.1).1
      rw [c]
    refine h1.imp_of_mem fun {a b} ha hb h => ?_
    have ea := h2 a ha
    have eb := h2 b hb
    unfold leP at h
    simp only [Bool.or_eq_true, Bool.and_eq_true, decide_eq_true_eq] at h
    omega
  have h1 := ranked_nodup roll
  refine List.Pairwise.imp₂ (fun a b (x : dayOf roll a < dayOf roll b ∨ (dayOf roll a = dayOf roll b ∧ a ≤ b)) (y : a ≠ b) => ?_) h0 h1
  omega
/-- the groups, day by day -/
structure GroupsOk (roll : List Lic) (gs : List (List Int)) : Prop where
  flat : gs.flatten = rankedL roll
  ne : ∀ g ∈ gs, g ≠ []
  same : ∀ g ∈ gs, ∀ a ∈ g, ∀ b ∈ g, dayOf roll a = dayOf roll b
  inc : gs.Pairwise fun g g' => ∀ a ∈ g, ∀ b ∈ g', dayOf roll a < dayOf roll b
theorem geti_last {α : Type} [Inhabited α] {ys : List α} {z : α} : geti (ys ++ [z]) (-1) = .ok z := by
  rw [geti_neg (by decide) (by rw [List.length_append, List.length_singleton]; omega)]
  congr 1
  rw [List.length_append, List.length_singleton]
  have e : (-1 : Int) + ((ys.length + 1 : Nat) : Int) = (ys.length : Int) := by omega
  rw [e, gx_append (by omega), if_neg (by omega), Int.sub_self]
  rfl
theorem seti_last {α : Type} {ys : List α} {z w : α} : seti (ys ++ [z]) (-1) w = .ok (ys ++ [w]) := by
  unfold seti
  rw [ixN_neg (by decide) (by rw [List.length_append, List.length_singleton]; omega)]
  have e : ((-1 : Int) + ((ys ++ [z]).length : Int)).toNat = ys.length := by
    rw [List.length_append, List.length_singleton]
    omega
  show Res.ok ((ys ++ [z]).set ((-1 : Int) + ((ys ++ [z]).length : Int)).toNat w) = _
  rw [e, List.set_append_right _ _ (Nat.le_refl _), Nat.sub_self]
  rfl
end Wk

set_option Elab.async false
set_option linter.all false
set_option maxRecDepth 100000
set_option maxHeartbeats 4000000
namespace Wk
open PySem PyProof.Rows L2
/-! ### what a dealing is known by -/
theorem sumR_lt {n : Nat} {f g : Int → Int} {k : Int} (k0 : 0 ≤ k) (k1 : k < n) (h : ∀ q : Int, 0 ≤ q → q < n → f q ≤ g q) (hk : f k < g k) : sumR n f < sumR n g := by
  have h1 := sumR_ge_one (n := n) (f := fun q => g q - f q) (i := k) k0 k1 fun q a b => by have := h q a b; omega
  rw [sumR_sub] at h1
  have h1 : g k - f k ≤ sumR n g - sumR n f := h1
  omega
theorem hR_one {r : List Int} {roll : List Lic} {t : List Int} {a : Int} (a0 : 0 ≤ a) (a1 : a < roll.length) (h : ∀ k : Int, 0 ≤ k → k < roll.length → k ≠ a → gx t k = 0) (p : Int) : hR r roll t p = if p ∈ lstr r (gx roll a) then gx t a else 0 := by
  unfold hR
  exact sumR_one (f := fun k => if p ∈ lstr r (gx roll k) then gx t k else 0) (i := a) a0 a1 fun q q0 q1 hq => by
    show (if p ∈ lstr r (gx roll q) then gx t q else 0) = 0
    rw [h q q0 q1 hq]
    split <;> rfl
/-- a share of a dealing: what holds of those filed up to a day -/
structure Part (r s : List Int) (roll : List Lic) (w t : List Int) (last : Int) : Prop where
  len : t.length = roll.length
  nn : ∀ k : Int, 0 ≤ k → k < roll.length → 0 ≤ gx t k
  bd : ∀ k : Int, 0 ≤ k → k < roll.length → dayOf roll k ≤ last → gx t k ≤ gx w k
  fit : ∀ p : Int, 0 ≤ p → p < r.length → hR r roll t p ≤ upS r s p
  sh : ∀ k : Int, 0 ≤ k → k < roll.length → dayOf roll k ≤ last → gx t k = gx w k ∨ ∃ p ∈ lstr r (gx roll k), hR r roll t p = upS r s p ∧ Ahd r roll t p ((gx roll k).1, gx t k + 1, k)
theorem Dealt.part {r s : List Int} {roll : List Lic} {w t : List Int} (D : Dealt r s roll w t) (last : Int) : Part r s roll w t last :=
  ⟨D.len, fun k a b => (D.bd k a b).1, fun k a b _ => (D.bd k a b).2, D.fit, fun k a b _ => D.sh k a b⟩
theorem more_first {r s : List Int} {roll : List Lic} {w t u : List Int} {last : Int} (D : Part r s roll w t last) (hp : ∀ o ∈ roll, ∀ q ∈ lstr r o, 0 ≤ q ∧ q < r.length) (un : ∀ k : Int, 0 ≤ k → k < roll.length → 0 ≤ gx u k) (uf : ∀ p : Int, 0 ≤ p → p < r.length → hR r roll u p ≤ upS r s p) {k : Int} (k0 : 0 ≤ k) (k1 : k < roll.length) (ke : dayOf roll k ≤ last) (hk : gx t k < gx u k) (hw : gx u k ≤ gx w k) :
    ∃ j : Int, 0 ≤ j ∧ j < roll.length ∧ gx u j < gx t j ∧ dlt (dayOf roll j, gx t j, j) (dayOf roll k, gx t k + 1, k) := by
  rcases D.sh k k0 k1 ke with h | ⟨p, hpk, e, A⟩
  · omega
  · refine Classical.byContradiction fun hno => ?_
    have hpb := hp _ (gx_mem k0 k1) p hpk
    have hlt : hR r roll t p < hR r roll u p := by
      unfold hR
      refine sumR_lt (k := k) k0 k1 (fun q q0 q1 => ?_) ?_
      · show (if p ∈ lstr r (gx roll q) then gx t q else 0) ≤ if p ∈ lstr r (gx roll q) then gx u q else 0
        by_cases hq : p ∈ lstr r (gx roll q)
        · rw [if_pos hq, if_pos hq]
          refine Classical.byContradiction fun hle => hno ⟨q, q0, q1, by omega, A q ⟨q0, q1, ?_, hq⟩⟩
          have := un q q0 q1
          omega
        · rw [if_neg hq, if_neg hq]
          exact Int.le_refl _
      · show (if p ∈ lstr r (gx roll k) then gx t k else 0) < if p ∈ lstr r (gx roll k) then gx u k else 0
        rw [if_pos hpk, if_pos hpk]
        exact hk
    have := uf p hpb.1 hpb.2
    omega
theorem first_of {n : Nat} (P : Int → Prop) (d : Int → Drop) (h : ∃ k : Int, 0 ≤ k ∧ k < n ∧ P k) : ∃ k : Int, 0 ≤ k ∧ k < n ∧ P k ∧ ∀ j : Int, 0 ≤ j → j < n → P j → dle (d k) (d j) := by
  induction n with
  | zero =>
    obtain ⟨k, a, b, _⟩ := h
    omega
  | succ n ih =>
    by_cases h2 : ∃ k : Int, 0 ≤ k ∧ k < n ∧ P k
    · obtain ⟨k, k0, k1, kp, km⟩ := ih h2
      by_cases h3 : P n ∧ dlt (d n) (d k)
      · refine ⟨n, by omega, by omega, h3.1, fun j j0 j1 jp => ?_⟩
        by_cases e : j = (n : Int)
        · rw [e]; exact dle_refl _
        · exact dle_trans (dle_of_lt h3.2) (km j j0 (by omega) jp)
      · refine ⟨k, k0, by omega, kp, fun j j0 j1 jp => ?_⟩
        by_cases e : j = (n : Int)
        · rw [e] at jp ⊢
          exact fun z => h3 ⟨jp, z⟩
        · exact km j j0 (by omega) jp
    · obtain ⟨k, a, b, c⟩ := h
      have e : k = (n : Int) := Classical.byContradiction fun e => h2 ⟨k, a, by omega, c⟩
      rw [e] at c
      refine ⟨n, by omega, by omega, c, fun j j0 j1 jp => ?_⟩
      have e2 : j = (n : Int) := Classical.byContradiction fun e2 => h2 ⟨j, j0, by omega, jp⟩
      rw [e2]
      exact dle_refl _
/-- what those filed up to a day get hangs on their wants alone -/
theorem part_uniq {r s : List Int} {roll : List Lic} {w w' t u : List Int} {last : Int} (D : Part r s roll w t last) (E : Part r s roll w' u last) (hp : ∀ o ∈ roll, ∀ q ∈ lstr r o, 0 ≤ q ∧ q < r.length) (hw : ∀ k : Int, 0 ≤ k → k < roll.length → dayOf roll k ≤ last → gx w k = gx w' k) : ∀ k : Int, 0 ≤ k → k < roll.length → dayOf roll k ≤ last → gx t k = gx u k := by
  refine fun k k0 k1 ke => Classical.byContradiction fun hne => ?_
  obtain ⟨m, m0, m1, ⟨m2, m3⟩, m4⟩ := first_of (n := roll.length) (fun j => dayOf roll j ≤ last ∧ gx t j ≠ gx u j) (fun j => (dayOf roll j, min (gx t j) (gx u j) + 1, j)) ⟨k, k0, k1, ke, hne⟩
  have hww := hw m m0 m1 m2
  have b1 := D.bd m m0 m1 m2
  have b2 := E.bd m m0 m1 m2
  rcases Int.lt_or_gt_of_ne m3 with h | h
  · obtain ⟨j, j0, j1, j2, j3⟩ := more_first D hp E.nn E.fit m0 m1 m2 h (by omega)
    have hj : dayOf roll j ≤ last := by unfold dlt at j3; omega
    have := m4 j j0 j1 ⟨hj, by omega⟩
    simp only [dle, dlt] at this j3
    omega
  · obtain ⟨j, j0, j1, j2, j3⟩ := more_first E hp D.nn D.fit m0 m1 m2 h (by omega)
    have hj : dayOf roll j ≤ last := by unfold dlt at j3; omega
    have := m4 j j0 j1 ⟨hj, by omega⟩
    simp only [dle, dlt] at this j3
    omega
theorem sum_filter {l : List Int} {b : Int → Bool} {f : Int → Int} (h : ∀ k ∈ l, b k = false → f k = 0) : (l.map f).sum = ((l.filter b).map f).sum := by
  induction l with
  | nil => rfl
  | cons x l ih =>
    have := ih fun k hk => h k (List.mem_cons_of_mem _ hk)
    cases e : b x with
    | true => rw [List.filter_cons, if_pos e, List.map_cons, List.map_cons, List.sum_cons, List.sum_cons, this]
    | false => rw [List.filter_cons, if_neg (by simp [e]), List.map_cons, List.sum_cons, this, h x (List.mem_cons_self ..) e, Int.zero_add]
theorem sum_map_gx {l : List Int} {f : Int → Int} : (l.map f).sum = sumR l.length fun i => f (gx l i) := by
  unfold sumR
  conv => lhs; rw [← map_range_gx l]
  rw [List.map_map]
  rfl
end Wk

set_option Elab.async false
set_option linter.all false
set_option maxRecDepth 100000
set_option maxHeartbeats 4000000
namespace Wk
open PySem PyProof.Rows L2
/-! ### a roll of some of the licences -/
theorem pair_gx {l : List Int} (h : l.Pairwise (· < ·)) {i j : Int} (i0 : 0 ≤ i) (ij : i < j) (jl : j < l.length) : gx l i < gx l j := by
  have hi : i.toNat < l.length := by omega
  have hj : j.toNat < l.length := by omega
  have h1 := (List.pairwise_iff_getElem.mp h) i.toNat j.toNat hi hj (by omega)
  have a := gx_get i0 (by omega : i < (l.length : Int))
  have b := gx_get (by omega : 0 ≤ j) jl
  rw [List.getElem?_eq_getElem hi] at a
  rw [List.getElem?_eq_getElem hj] at b
  rw [Option.some.inj a, Option.some.inj b] at h1
  exact h1
theorem rangeL_lt (a b : Int) : (rangeL a b).Pairwise (· < ·) := by
  refine List.Pairwise.imp₂ (fun x y (h : x ≤ y) (k : x ≠ y) => ?_) (rangeL_sorted a b) (nodup_rangeL a b)
  omega
theorem few_part {r s : List Int} {roll : List Lic} {w w' t3 : List Int} {last : Int} {b : Int → Bool} {el : List Int} (hel : el = (rangeL 0 roll.length).filter b) (hb : ∀ k : Int, 0 ≤ k → k < roll.length → (b k = true ↔ dayOf roll k ≤ last)) (D : Dealt r s (el.map (gx roll)) w' t3) (hw : ∀ i : Int, 0 ≤ i → i < el.length → gx w' i = gx w (gx el i)) :
    ∃ u, Part r s roll w u last ∧ ∀ i : Int, 0 ≤ i → i < el.length → gx u (gx el i) = gx t3 i := by
  have hlt : el.Pairwise (· < ·) := by rw [hel]; exact List.Pairwise.filter _ (rangeL_lt _ _)
  have hnd : el.Nodup := hlt.imp fun h => Int.ne_of_lt h
  have hmem : ∀ k, k ∈ el ↔ (0 ≤ k ∧ k < roll.length) ∧ b k = true := fun k => by rw [hel, List.mem_filter, mem_rangeL]
  have hex : ∀ k : Int, ∃ v : Int, (∀ i : Int, 0 ≤ i → i < el.length → gx el i = k → v = gx t3 i) ∧ (k ∉ el → v = 0) := fun k => by
    by_cases h : k ∈ el
    · obtain ⟨i, i0, i1, e⟩ := mem_gx h
      refine ⟨gx t3 i, fun j j0 j1 ej => ?_, fun z => absurd h z⟩
      rw [gx_inj hnd i0 i1 j0 j1 (e.trans ej.symm)]
    · exact ⟨0, fun i i0 i1 e => absurd (e ▸ gx_mem i0 i1) h, fun _ => rfl⟩
  have hl1 := D.len
  rw [List.length_map] at hl1
  have hu : ∃ u : List Int, u.length = roll.length ∧ ∀ k : Int, 0 ≤ k → k < roll.length → (∀ i : Int, 0 ≤ i → i < el.length → gx el i = k → gx u k = gx t3 i) ∧ (k ∉ el → gx u k = 0) := by
    refine ⟨(rangeL 0 roll.length).map fun k => (hex k).choose, by rw [List.length_map, rangeL_length]; omega, fun k k0 k1 => ?_⟩
    rw [gx_map k0 (by rw [rangeL_length]; omega), gx_rangeL k0 (by omega), Int.zero_add]
    exact (hex k).choose_spec
  obtain ⟨u, ul, hu⟩ := hu
  have hui : ∀ i : Int, 0 ≤ i → i < el.length → gx u (gx el i) = gx t3 i := fun i i0 i1 => by
    have hm := (hmem _).mp (gx_mem i0 i1)
    exact (hu _ hm.1.1 hm.1.2).1 i i0 i1 rfl
  have hgr : ∀ i : Int, 0 ≤ i → i < el.length → gx (el.map (gx roll)) i = gx roll (gx el i) := fun i i0 i1 => gx_map i0 i1
  have hre : ∀ k : Int, 0 ≤ k → k < roll.length → dayOf roll k ≤ last → ∃ i : Int, 0 ≤ i ∧ i < el.length ∧ gx el i = k := fun k k0 k1 hk => mem_gx ((hmem k).mpr ⟨⟨k0, k1⟩, (hb k k0 k1).mpr hk⟩)
  have hhR : ∀ p, hR r roll u p = hR r (el.map (gx roll)) t3 p := fun p => by
    unfold hR
    show ((rangeL 0 roll.length).map fun k => if p ∈ lstr r (gx roll k) then gx u k else 0).sum = _
    rw [sum_filter (b := b) fun k hk hbk => ?_, ← hel, sum_map_gx, List.length_map]
    · refine sumR_congr fun i i0 i1 => ?_
      show (if p ∈ lstr r (gx roll (gx el i)) then gx u (gx el i) else 0) = if p ∈ lstr r (gx (el.map (gx roll)) i) then gx t3 i else 0
      rw [hgr i i0 i1, hui i i0 i1]
    · have hk := mem_rangeL.mp hk
      have : k ∉ el := fun z => by
        have := ((hmem k).mp z).2
        rw [hbk] at this
        cases this
      show (if p ∈ lstr r (gx roll k) then gx u k else 0) = 0
      rw [(hu k hk.1 hk.2).2 this]
      split <;> rfl
  have hbd : ∀ i : Int, 0 ≤ i → i < el.length → 0 ≤ gx t3 i ∧ gx t3 i ≤ gx w' i := fun i i0 i1 => D.bd i i0 (by rw [List.length_map]; exact i1)
  refine ⟨u, ⟨ul, fun k k0 k1 => ?_, fun k k0 k1 hk => ?_, fun p p0 p1 => by rw [hhR]; exact D.fit p p0 p1, fun k k0 k1 hk => ?_⟩, hui⟩
  · by_cases h : k ∈ el
    · obtain ⟨i, i0, i1, e⟩ := mem_gx h
      rw [← e, hui i i0 i1]
      exact (hbd i i0 i1).1
    · rw [(hu k k0 k1).2 h]
      exact Int.le_refl _
  · obtain ⟨i, i0, i1, e⟩ := hre k k0 k1 hk
    rw [← e, hui i i0 i1, ← hw i i0 i1]
    exact (hbd i i0 i1).2
  · obtain ⟨i, i0, i1, e⟩ := hre k k0 k1 hk
    rw [← e, hui i i0 i1, ← hw i i0 i1]
    rcases D.sh i i0 (by rw [List.length_map]; exact i1) with h | ⟨p, hp, h1, h2⟩
    · exact .inl h
    · rw [hgr i i0 i1] at hp h2
      refine .inr ⟨p, hp, by rw [hhR]; exact h1, fun j hj => ?_⟩
      obtain ⟨j0, j1, j2, j3⟩ := hj
      have hje : j ∈ el := Classical.byContradiction fun z => by
        rw [(hu j j0 j1).2 z] at j2
        omega
      obtain ⟨m, m0, m1, em⟩ := mem_gx hje
      have hq := h2 m ⟨m0, by rw [List.length_map]; exact m1, by rw [← hui m m0 m1, em]; exact j2, by rw [hgr m m0 m1, em]; exact j3⟩
      unfold trp at hq ⊢
      rw [hgr m m0 m1, em, ← hui m m0 m1, em] at hq
      have hmono : m < i → j < gx el i := fun z => by rw [← em]; exact pair_gx hlt m0 z i1
      simp only [dlt] at hq ⊢
      omega
/-! ### ways that meet -/
section
variable {r : List Int} {rk : Int → Int}
theorem way_suf (R : Riv r rk) : ∀ i, Pl r i → ∀ q ∈ wayL r i, ∃ pre, wayL r i = pre ++ wayL r q := by
  refine R.ind ?_ fun i h0 h ih => ?_
  · intro q hq
    rw [way_end] at hq
    exact nomatch hq
  · intro q hq
    rw [way_step R h0 h] at hq ⊢
    rcases List.mem_cons.mp hq with e | e
    · refine ⟨[], ?_⟩
      rw [e, way_step R h0 h]
      rfl
    · obtain ⟨pre, e2⟩ := ih q e
      exact ⟨i :: pre, by rw [e2]; rfl⟩
theorem way_trans (R : Riv r rk) {i q p : Int} (hi : Pl r i) (hq : q ∈ wayL r i) (hp : p ∈ wayL r q) : p ∈ wayL r i := by
  obtain ⟨pre, e⟩ := way_suf R i hi q hq
  rw [e]
  exact List.mem_append_right _ hp
theorem way_comp (R : Riv r rk) {i q p : Int} (hi : Pl r i) (hq : q ∈ wayL r i) (hp : p ∈ wayL r i) : p ∈ wayL r q ∨ q ∈ wayL r p := by
  obtain ⟨pre, e⟩ := way_suf R i hi q hq
  obtain ⟨pre2, e2⟩ := way_suf R i hi p hp
  have hqb := way_mem R i hi q hq
  have hpb := way_mem R i hi p hp
  rcases List.suffix_or_suffix_of_suffix (⟨pre, e.symm⟩ : wayL r q <:+ wayL r i) (⟨pre2, e2.symm⟩ : wayL r p <:+ wayL r i) with h | h
  · exact .inr (h.subset (by rw [way_step R hqb.1 hqb.2]; exact List.mem_cons_self ..))
  · exact .inl (h.subset (by rw [way_step R hpb.1 hpb.2]; exact List.mem_cons_self ..))
theorem way_self (R : Riv r rk) {p : Int} (h0 : 0 ≤ p) (h1 : p < r.length) : p ∈ wayL r p := by
  rw [way_step R h0 h1]; exact List.mem_cons_self ..
/-- the last marked place of a way -/
noncomputable def low (r : List Int) (T : Int → Prop) (x : Int) : Int := by
  classical
  exact ((wayL r x).reverse.find? fun q => decide (T q)).getD (-1)
theorem low_spec (R : Riv r rk) (T : Int → Prop) {x : Int} (hx : Pl r x) : (low r T x = -1 ∧ ∀ q ∈ wayL r x, ¬ T q) ∨ (low r T x ∈ wayL r x ∧ T (low r T x) ∧ ∀ y, Pl r y → low r T x ∈ wayL r y → low r T y = low r T x) := by
  classical
  unfold low
  cases h : (wayL r x).reverse.find? fun q => decide (T q) with
  | none =>
    refine .inl ⟨rfl, fun q hq hT => ?_⟩
    have := List.find?_eq_none.mp h q (List.mem_reverse.mpr hq)
    exact this (decide_eq_true hT)
  | some q =>
    right
    have hq : q ∈ wayL r x := List.mem_reverse.mp (List.mem_of_find?_eq_some h)
    have hT : T q := of_decide_eq_true (p := T q) (List.find?_some (p := fun q => decide (T q)) h)
    refine ⟨hq, hT, fun y hy hqy => ?_⟩
    show ((wayL r y).reverse.find? fun q => decide (T q)).getD (-1) = q
    have hqy : q ∈ wayL r y := hqy
    obtain ⟨pre, e⟩ := way_suf R x hx q hq
    obtain ⟨pre2, e2⟩ := way_suf R y hy q hqy
    have hqb := way_mem R x hx q hq
    have hq2 : ((wayL r q).reverse.find? fun q => decide (T q)) = some q := by
      rw [e, List.reverse_append, List.find?_append] at h
      cases h3 : (wayL r q).reverse.find? fun q => decide (T q) with
      | none =>
        have := List.find?_eq_none.mp h3 q (List.mem_reverse.mpr (way_self R hqb.1 hqb.2))
        exact absurd (decide_eq_true hT) this
      | some z =>
        rw [h3] at h
        exact h
    rw [e2, List.reverse_append, List.find?_append, hq2]
    rfl
theorem sumR_sum_comm {n m : Nat} (f : Int → Int → Int) : sumR n (fun k => sumR m (f k)) = sumR m fun q => sumR n fun k => f k q := sum_sum_comm _ _ f
/-- sets one within another: what is short somewhere is made good at a marked place -/
theorem lam (R : Riv r rk) {n : Nat} (st : Int → Int) (hst : ∀ k : Int, 0 ≤ k → k < n → Pl r (st k)) (T P : Int → Prop) {f g : Int → Int}
    (h1 : ∀ q : Int, 0 ≤ q → q < r.length → T q → sumR n (fun k => if q ∈ wayL r (st k) then f k else 0) ≤ sumR n (fun k => if q ∈ wayL r (st k) then g k else 0))
    (h2 : ∀ k : Int, 0 ≤ k → k < n → P k → g k < f k → ∃ q ∈ wayL r (st k), T q)
    (h3 : ∀ k : Int, 0 ≤ k → k < n → P k → ∀ q ∈ wayL r (st k), T q → ∀ j : Int, 0 ≤ j → j < n → q ∈ wayL r (st j) → P j) [DecidablePred P] :
    sumR n (fun k => if P k then f k else 0) ≤ sumR n (fun k => if P k then g k else 0) := by
  have hsplit : ∀ h : Int → Int, sumR n (fun k => if P k then h k else 0) = sumR r.length (fun q => sumR n fun k => if low r T (st k) = q then (if P k then h k else 0) else 0) + sumR n (fun k => if low r T (st k) = -1 then (if P k then h k else 0) else 0) := fun h => by
    rw [← sumR_sum_comm, ← sumR_add]
    refine sumR_congr fun k k0 k1 => ?_
    rcases low_spec R T (hst k k0 k1) with ⟨e, _⟩ | ⟨e, _, _⟩
    · rw [if_pos e, sumR_zero fun q q0 q1 => if_neg (by omega), Int.zero_add]
    · have hb := way_mem R _ (hst k k0 k1) _ e
      rw [if_neg (show ¬ low r T (st k) = -1 by omega), Int.add_zero, sumR_one (i := low r T (st k)) hb.1 hb.2 fun q q0 q1 hq => if_neg (Ne.symm hq), if_pos rfl]
  rw [hsplit f, hsplit g]
  refine Int.add_le_add (sumR_le fun q q0 q1 => ?_) (sumR_le fun k k0 k1 => ?_)
  · by_cases hex : ∃ k : Int, 0 ≤ k ∧ k < n ∧ P k ∧ low r T (st k) = q
    · obtain ⟨k, k0, k1, kP, ke⟩ := hex
      rcases low_spec R T (hst k k0 k1) with ⟨e, _⟩ | ⟨e1, e2, e3⟩
      · omega
      · rw [ke] at e1 e2 e3
        have hh : ∀ h : Int → Int, sumR n (fun k => if low r T (st k) = q then (if P k then h k else 0) else 0) = sumR n (fun k => if q ∈ wayL r (st k) then h k else 0) := fun h => by
          refine sumR_congr fun j j0 j1 => ?_
          by_cases hj : q ∈ wayL r (st j)
          · rw [if_pos hj, if_pos (e3 _ (hst j j0 j1) hj), if_pos (h3 k k0 k1 kP q e1 e2 j j0 j1 hj)]
          · rw [if_neg hj, if_neg fun z => hj ?_]
            rcases low_spec R T (hst j j0 j1) with ⟨e, _⟩ | ⟨e, _, _⟩
            · omega
            · rw [z] at e
              exact e
        rw [hh f, hh g]
        exact h1 q q0 q1 e2
    · have hh : ∀ h : Int → Int, sumR n (fun k => if low r T (st k) = q then (if P k then h k else 0) else 0) = 0 := fun h => sumR_zero fun j j0 j1 => by
        by_cases a : low r T (st j) = q
        · rw [if_pos a, if_neg fun b => hex ⟨j, j0, j1, b, a⟩]
        · rw [if_neg a]
      rw [hh f, hh g]
      exact Int.le_refl _
  · show (if low r T (st k) = -1 then (if P k then f k else 0) else 0) ≤ if low r T (st k) = -1 then (if P k then g k else 0) else 0
    split
    · split
      · rename_i a b
        refine Classical.byContradiction fun hlt => ?_
        obtain ⟨q, hq, hT⟩ := h2 k k0 k1 b (by omega)
        rcases low_spec R T (hst k k0 k1) with ⟨_, e⟩ | ⟨e, _, _⟩
        · exact e q hq hT
        · have := way_mem R _ (hst k k0 k1) _ e
          omega
      · exact Int.le_refl _
    · exact Int.le_refl _
end
end Wk

set_option Elab.async false
set_option linter.all false
set_option maxRecDepth 100000
set_option maxHeartbeats 4000000
namespace Wk
open PySem PyProof.Rows L2
section
variable {r : List Int} {rk : Int → Int} {roll : List Lic} {s s' w w' t t' u : List Int}
theorem lstr_way (R : Riv r rk) {o : Lic} (h : LicOk r o) (hb : o.2.2.1 = -1) : lstr r o = wayL r o.2.1 := by
  unfold lstr
  rw [hb]
  exact str_end R (.inr ⟨h.1, h.2.1⟩)
/-- a reach that is full of drops within a bound is full of the bounded takes -/
theorem full_cap (D : Dealt r s roll w t) {cap : Int → Int} (c0 : ∀ k : Int, 0 ≤ k → k < roll.length → 0 ≤ cap k) {p : Int} {d : Drop} (A : Ahd r roll t p d) (cm : ∀ j : Int, 0 ≤ j → j < roll.length → 0 < gx t j → dlt (dayOf roll j, gx t j, j) d → gx t j ≤ cap j) :
    hR r roll (t) p = sumR roll.length fun k => if p ∈ lstr r (gx roll k) then min (gx t k) (cap k) else 0 := by
  unfold hR
  refine sumR_congr fun j j0 j1 => ?_
  show (if p ∈ lstr r (gx roll j) then gx t j else 0) = if p ∈ lstr r (gx roll j) then min (gx t j) (cap j) else 0
  by_cases hj : p ∈ lstr r (gx roll j)
  · rw [if_pos hj, if_pos hj]
    have h0 := (D.bd j j0 j1).1
    have h1 := c0 j j0 j1
    by_cases hp : 0 < gx t j
    · have := cm j j0 j1 hp (A j ⟨j0, j1, hp, hj⟩)
      omega
    · omega
  · rw [if_neg hj, if_neg hj]
/-- up to each drop no takes that fit hold more than the dealing -/
theorem greedy (R : Riv r rk) (hz : ∀ o ∈ roll, LicOk r o) (hb : ∀ o ∈ roll, o.2.2.1 = -1) (D : Dealt r s roll w t) (ub : ∀ k : Int, 0 ≤ k → k < roll.length → 0 ≤ gx u k ∧ gx u k ≤ gx w k) (uf : ∀ p : Int, 0 ≤ p → p < r.length → hR r roll u p ≤ upS r s p) (cap : Int → Int) (c0 : ∀ k : Int, 0 ≤ k → k < roll.length → 0 ≤ cap k)
    (cm : ∀ j k : Int, 0 ≤ j → j < roll.length → 0 ≤ k → k < roll.length → 0 < gx t j → gx t k + 1 ≤ cap k → dlt (dayOf roll j, gx t j, j) (dayOf roll k, gx t k + 1, k) → gx t j ≤ cap j) :
    sumR roll.length (fun k => min (gx u k) (cap k)) ≤ sumR roll.length (fun k => min (gx t k) (cap k)) := by
  have hlw : ∀ k : Int, 0 ≤ k → k < roll.length → lstr r (gx roll k) = wayL r (gx roll k).2.1 := fun k k0 k1 => lstr_way R (hz _ (gx_mem k0 k1)) (hb _ (gx_mem k0 k1))
  have key := lam R (n := roll.length) (fun k => (gx roll k).2.1) (fun k k0 k1 => by have := hz _ (gx_mem k0 k1); exact .inr ⟨this.1, this.2.1⟩)
    (fun q => (sumR roll.length fun k => if q ∈ wayL r (gx roll k).2.1 then min (gx t k) (cap k) else 0) = upS r s q) (fun _ => True) (f := fun k => min (gx u k) (cap k)) (g := fun k => min (gx t k) (cap k))
    (fun q q0 q1 hT => by
      show (sumR roll.length fun k => if q ∈ wayL r (gx roll k).2.1 then min (gx u k) (cap k) else 0) ≤ (sumR roll.length fun k => if q ∈ wayL r (gx roll k).2.1 then min (gx t k) (cap k) else 0)
      rw [hT]
      refine Int.le_trans (sumR_le fun k k0 k1 => ?_) (uf q q0 q1)
      show (if q ∈ wayL r (gx roll k).2.1 then min (gx u k) (cap k) else 0) ≤ if q ∈ lstr r (gx roll k) then gx u k else 0
      rw [hlw k k0 k1]
      split
      · omega
      · exact Int.le_refl _)
    (fun k k0 k1 _ hlt => by
      have hlt : min (gx t k) (cap k) < min (gx u k) (cap k) := hlt
      have h1 := ub k k0 k1
      rcases D.sh k k0 k1 with h | ⟨p, hp, e, A⟩
      · omega
      · have hf := full_cap D c0 A fun j j0 j1 hj hd => cm j k j0 j1 k0 k1 hj (by omega) hd
        refine ⟨p, by rw [← hlw k k0 k1]; exact hp, ?_⟩
        show (sumR roll.length fun k => if p ∈ wayL r (gx roll k).2.1 then min (gx t k) (cap k) else 0) = upS r s p
        rw [← e, hf]
        refine sumR_congr fun j j0 j1 => ?_
        show (if p ∈ wayL r (gx roll j).2.1 then min (gx t j) (cap j) else 0) = if p ∈ lstr r (gx roll j) then min (gx t j) (cap j) else 0
        rw [hlw j j0 j1])
    (fun _ _ _ _ _ _ _ _ _ _ _ => trivial)
  have e : ∀ h : Int → Int, sumR roll.length (fun k => if True then h k else 0) = sumR roll.length h := fun h => sumR_congr fun k _ _ => if_pos trivial
  rw [e, e] at key
  exact key
theorem sumR_app (a : Nat) (h : Int → Int) : ∀ b : Nat, sumR (a + b) h = sumR a h + sumR b fun i => h (a + i)
  | 0 => by rw [Nat.add_zero]; show _ = _ + (0 : Int); omega
  | b + 1 => by
    rw [← Nat.add_assoc, sumR_succ, sumR_succ, sumR_app a h b, Int.natCast_add]
    omega
/-- more rain, or lesser wants of some: the others have no less -/
theorem rain (R : Riv r rk) (hz : ∀ o ∈ roll, LicOk r o) (hb : ∀ o ∈ roll, o.2.2.1 = -1) (D : Dealt r s roll w t) (D' : Dealt r s' roll w' t') (hw : ∀ k : Int, 0 ≤ k → k < roll.length → gx w' k ≤ gx w k) (hs : ∀ q : Int, 0 ≤ q → q < r.length → gx s q ≤ gx s' q) {k : Int} (k0 : 0 ≤ k) (k1 : k < roll.length) : min (gx t k) (gx w' k) ≤ gx t' k := by
  refine Classical.byContradiction fun hno => ?_
  have hlw : ∀ k : Int, 0 ≤ k → k < roll.length → lstr r (gx roll k) = wayL r (gx roll k).2.1 := fun k k0 k1 => lstr_way R (hz _ (gx_mem k0 k1)) (hb _ (gx_mem k0 k1))
  have hpl : ∀ k : Int, 0 ≤ k → k < roll.length → Pl r (gx roll k).2.1 := fun k k0 k1 => by have := hz _ (gx_mem k0 k1); exact .inr ⟨this.1, this.2.1⟩
  rcases D'.sh k k0 k1 with h | ⟨p, hp, e, A⟩
  · omega
  have hpk : p ∈ wayL r (gx roll k).2.1 := by rw [← hlw k k0 k1]; exact hp
  have hpb := way_mem R _ (hpl k k0 k1) p hpk
  obtain ⟨cap, hcap⟩ : ∃ cap : Int → Int, ∀ j, cap j = if dayOf roll j < dayOf roll k then gx w j else if dayOf roll j = dayOf roll k then (if j < k then gx t' k + 1 else gx t' k) else 0 := ⟨_, fun j => rfl⟩
  have bt : ∀ j : Int, 0 ≤ j → j < roll.length → 0 ≤ gx t j ∧ gx t j ≤ gx w j ∧ 0 ≤ gx t' j ∧ gx t' j ≤ gx w' j ∧ gx w' j ≤ gx w j := fun j j0 j1 => by
    have a := D.bd j j0 j1
    have b := D'.bd j j0 j1
    have c := hw j j0 j1
    omega
  have c0 : ∀ j : Int, 0 ≤ j → j < roll.length → 0 ≤ cap j := fun j j0 j1 => by
    have a := bt j j0 j1
    have b := bt k k0 k1
    rw [hcap]
    split
    · omega
    · split
      · split <;> omega
      · omega
  have cm : ∀ i j : Int, 0 ≤ j → j < roll.length → gx t i + 1 ≤ cap i → dlt (dayOf roll j, gx t j, j) (dayOf roll i, gx t i + 1, i) → 0 < gx t j → 0 ≤ gx t i → gx t j ≤ cap j := fun i j j0 j1 hi hd h0 hi0 => by
    have a := bt j j0 j1
    have b := bt k k0 k1
    rw [hcap] at hi ⊢
    simp only [dlt] at hd
    split
    · omega
    · split at hi
      · split
        · split <;> omega
        · omega
      · split at hi
        · split
          · split <;> split at hi <;> omega
          · omega
        · omega
  have hck : min (gx t k) (cap k) < gx t k := by
    rw [hcap, if_neg (by omega), if_pos rfl, if_neg (by omega)]
    omega
  -- what is bounded is short of what is free, on the way of k
  have hshort : ∀ q ∈ wayL r (gx roll k).2.1, (sumR roll.length fun j => if q ∈ wayL r (gx roll j).2.1 then min (gx t j) (cap j) else 0) < upS r s q := fun q hq => by
    have hqb := way_mem R _ (hpl k k0 k1) q hq
    refine Int.lt_of_lt_of_le (sumR_lt (g := fun j => if q ∈ lstr r (gx roll j) then gx t j else 0) (k := k) k0 k1 (fun j j0 j1 => ?_) ?_) (D.fit q hqb.1 hqb.2)
    · show (if q ∈ wayL r (gx roll j).2.1 then min (gx t j) (cap j) else 0) ≤ if q ∈ lstr r (gx roll j) then gx t j else 0
      rw [hlw j j0 j1]
      split
      · omega
      · exact Int.le_refl _
    · show (if q ∈ wayL r (gx roll k).2.1 then min (gx t k) (cap k) else 0) < if q ∈ lstr r (gx roll k) then gx t k else 0
      rw [hlw k k0 k1, if_pos hq, if_pos hq]
      exact hck
  have hsum : ∀ (q : Int) (F : Int → Int) (H : Int → Int), (sumR (roll.length + r.length) fun i => if q ∈ wayL r (if i < roll.length then (gx roll i).2.1 else i - roll.length) then (if i < roll.length then F i else - H (i - roll.length)) else 0) = (sumR roll.length fun j => if q ∈ wayL r (gx roll j).2.1 then F j else 0) - sumR r.length fun x => if q ∈ wayL r x then H x else 0 := fun q F H => by
    rw [sumR_app, Int.sub_eq_add_neg]
    congr 1
    · refine sumR_congr fun j j0 j1 => ?_
      show (if q ∈ wayL r (if j < roll.length then (gx roll j).2.1 else j - roll.length) then (if j < roll.length then F j else - H (j - roll.length)) else 0) = _
      rw [if_pos j1, if_pos j1]
    · have : ∀ n : Nat, ∀ f : Int → Int, - sumR n f = sumR n fun x => - f x := fun n f => by
        have h1 := sumR_add (n := n) (f := f) (g := fun x => - f x)
        rw [sumR_zero (f := fun q => f q + - f q) fun q _ _ => by show f q + - f q = 0; omega] at h1
        omega
      rw [this]
      refine sumR_congr fun x x0 x1 => ?_
      show (if q ∈ wayL r (if (roll.length : Int) + x < roll.length then (gx roll ((roll.length : Int) + x)).2.1 else (roll.length : Int) + x - roll.length) then (if (roll.length : Int) + x < roll.length then F ((roll.length : Int) + x) else - H ((roll.length : Int) + x - roll.length)) else 0) = - if q ∈ wayL r x then H x else 0
      rw [if_neg (show ¬ (roll.length : Int) + x < roll.length by omega), if_neg (show ¬ (roll.length : Int) + x < roll.length by omega), show (roll.length : Int) + x - roll.length = x by omega]
      split <;> omega
  have key := lam R (n := roll.length + r.length) (fun i => if i < roll.length then (gx roll i).2.1 else i - roll.length) (fun i i0 i1 => by
      show Pl r (if i < roll.length then (gx roll i).2.1 else i - roll.length)
      split
      · exact hpl i i0 (by assumption)
      · exact .inr ⟨by omega, by omega⟩)
    (fun q => (sumR roll.length fun j => if q ∈ wayL r (gx roll j).2.1 then min (gx t j) (cap j) else 0) = upS r s q) (fun i => p ∈ wayL r (if i < roll.length then (gx roll i).2.1 else i - roll.length))
    (f := fun i => if i < roll.length then gx t' i else - gx s' (i - roll.length)) (g := fun i => if i < roll.length then min (gx t i) (cap i) else - gx s (i - roll.length))
    (fun q q0 q1 hT => by
      rw [hsum q (gx t') (gx s'), hsum q (fun j => min (gx t j) (cap j)) (gx s), hT]
      have h1 := D'.fit q q0 q1
      have h2 : hR r roll t' q = sumR roll.length fun j => if q ∈ wayL r (gx roll j).2.1 then gx t' j else 0 := sumR_congr fun j j0 j1 => by
        show (if q ∈ lstr r (gx roll j) then gx t' j else 0) = _
        rw [hlw j j0 j1]
      rw [← h2]
      show hR r roll t' q - upS r s' q ≤ upS r s q - upS r s q
      omega)
    (fun i i0 i1 hP hlt => by
      by_cases il : i < roll.length
      · have hP : p ∈ wayL r (if i < roll.length then (gx roll i).2.1 else i - roll.length) := hP
        rw [if_pos il] at hP
        have hlt : (if i < roll.length then min (gx t i) (cap i) else - gx s (i - roll.length)) < if i < roll.length then gx t' i else - gx s' (i - roll.length) := hlt
        rw [if_pos il, if_pos il] at hlt
        have a := bt i i0 il
        have b := bt k k0 k1
        have c := c0 i i0 il
        have hd := A i ⟨i0, il, by omega, by rw [hlw i i0 il]; exact hP⟩
        have hd : dlt (dayOf roll i, gx t' i, i) (dayOf roll k, gx t' k + 1, k) := hd
        have hcp : gx t' i ≤ cap i := by
          simp only [dlt] at hd
          rw [hcap]
          split
          · omega
          · split
            · split <;> omega
            · omega
        rcases D.sh i i0 il with h | ⟨q, hq, e2, A2⟩
        · omega
        · have hf := full_cap D c0 A2 fun j j0 j1 hj hdj => cm i j j0 j1 (by omega) hdj hj a.1
          rw [hlw i i0 il] at hq
          refine ⟨q, by show q ∈ wayL r (if i < roll.length then (gx roll i).2.1 else i - roll.length); rw [if_pos il]; exact hq, ?_⟩
          show (sumR roll.length fun j => if q ∈ wayL r (gx roll j).2.1 then min (gx t j) (cap j) else 0) = upS r s q
          rw [← e2, hf]
          refine sumR_congr fun j j0 j1 => ?_
          show (if q ∈ wayL r (gx roll j).2.1 then min (gx t j) (cap j) else 0) = if q ∈ lstr r (gx roll j) then min (gx t j) (cap j) else 0
          rw [hlw j j0 j1]
      · have hlt : (if i < roll.length then min (gx t i) (cap i) else - gx s (i - roll.length)) < if i < roll.length then gx t' i else - gx s' (i - roll.length) := hlt
        rw [if_neg il, if_neg il] at hlt
        have := hs (i - roll.length) (by omega) (by omega)
        omega)
    (fun i i0 i1 hP q hq hT j j0 j1 hj => by
      have hqk : q ∉ wayL r (gx roll k).2.1 := fun z => by
        have h1 := hshort q z
        have h2 : (sumR roll.length fun j => if q ∈ wayL r (gx roll j).2.1 then min (gx t j) (cap j) else 0) = upS r s q := hT
        omega
      have hpi : ∀ m : Int, 0 ≤ m → m < ((roll.length + r.length : Nat) : Int) → Pl r (if m < roll.length then (gx roll m).2.1 else m - roll.length) := fun m m0 m1 => by
        split
        · exact hpl m m0 (by assumption)
        · exact .inr ⟨by omega, by omega⟩
      rcases way_comp R (hpi i i0 i1) hq hP with h | h
      · exact way_trans R (hpi j j0 j1) hj h
      · exact absurd (way_trans R (hpl k k0 k1) hpk h) hqk)
  rw [hsum p (gx t') (gx s'), hsum p (fun j => min (gx t j) (cap j)) (gx s)] at key
  have h1 := hshort p hpk
  have h2 : hR r roll t' p = sumR roll.length fun j => if p ∈ wayL r (gx roll j).2.1 then gx t' j else 0 := sumR_congr fun j j0 j1 => by
    show (if p ∈ lstr r (gx roll j) then gx t' j else 0) = _
    rw [hlw j j0 j1]
  rw [← h2] at key
  have key : hR r roll t' p - upS r s' p ≤ (sumR roll.length fun j => if p ∈ wayL r (gx roll j).2.1 then min (gx t j) (cap j) else 0) - upS r s p := key
  omega
end
end Wk

set_option Elab.async false
set_option linter.all false
set_option maxRecDepth 100000
set_option synthInstance.maxSize 4000
set_option synthInstance.maxHeartbeats 2000000
namespace Mr
open Wk
def exN : List PySem.Str := ["NoReach", "NoCut"]
def exT : List PySem.Str := ["NoPaper", "NoDay", "NoHolder", "NoLicence", "NoNumber", "NoPond", "NoReach", "NoRiver", "NoRow", "NotAlone", "NotYours", "TooMuch", "Full", "Fixed", "Harms", "SluiceError", "NoCut"]
def m_way_of (below : List Int) (reach : Int) : Res (List Int) :=
  (Res.ok (([] : List Int))).bi fun (way_1 : List Int) =>
  (whileM fuel ((reach, way_1)) (fun (s2 : Int × (List Int)) => Res.ok (!decide (s2.1 = (-(1 : Int))))) (fun (s2 : Int × (List Int)) =>
  (appM (s2.2) (s2.1)).bi fun (way_4 : List Int) =>
  (geti (below) (s2.1)).bi fun (reach_5 : Int) =>
  Res.ok ((reach_5, way_4)))).bi fun (s2 : Int × (List Int)) =>
  Res.ok (s2.2)
def m_ranked (roll : List (Int × Int × Int × Int)) : Res (List Int) :=
  (Res.ok (((enumL (roll)).map (fun (y1 : Int × (Int × Int × Int × Int)) => (y1.2.1, y1.1))).mergeSort leP)).bi fun (order_2 : List (Int × Int)) =>
  Res.ok ((order_2).map (fun (y3 : Int × Int) => y3.2))
def m_wants_of (roll : List (Int × Int × Int × Int)) (calls : List Int) : Res (List Int) :=
  Res.ok (((roll).zip (calls)).map (fun (y1 : (Int × Int × Int × Int) × Int) => (min (y1.1.2.2.2) (y1.2))))
def m_ways_through (size : Int) (ways : List (List Int)) : Res (List Int) :=
  (repM (([(0 : Int)] : List Int)) (size)).bi fun (through_1 : List Int) =>
  (foldM ways through_1 (fun (y3 : List Int) (s2 : (List Int)) =>
  (foldM y3 s2 (fun (y7 : Int) (s6 : (List Int)) =>
  (augi (fun i j => i + j) (s6) (y7) ((1 : Int))).bi fun (through_10 : List Int) =>
  Res.ok through_10)).bi fun (s6 : (List Int)) =>
  Res.ok s6)).bi fun (s2 : (List Int)) =>
  Res.ok (s2)
def m_runs_dry (left : List Int) (way : List Int) : Res Bool :=
  loopC way (()) (fun (y2 : Int) (s1 : Unit) (next5 : Unit → Res Bool) =>
  ((geti (left) (y2)).bi fun u6 => (Res.ok ((0 : Int))).bi fun u7 => Res.ok (decide (u6 = u7))).bi fun c9 => if c9 then Res.ok (true) else
  next5 (())) (fun (s1 : Unit) =>
  Res.ok (false))
def m_take_out (left : List Int) (way : List Int) (amount : Int) : Res (Unit × ((List Int))) :=
  (foldM way left (fun (y2 : Int) (s1 : (List Int)) =>
  (augi (fun i j => i - j) (s1) (y2) (amount)).bi fun (left_5 : List Int) =>
  Res.ok left_5)).bi fun (s1 : (List Int)) =>
  Res.ok ((), s1)
def m_has_any (way : List Int) (reaches : List Int) : Res Bool :=
  loopC way (()) (fun (y2 : Int) (s1 : Unit) (next5 : Unit → Res Bool) =>
  if decide (y2 ∈ reaches) then Res.ok (true) else
  next5 (())) (fun (s1 : Unit) =>
  Res.ok (false))
def m_law_cell_at (script : List Int) (k : Int) : Res Int :=
  if decide (k < ((script).length : Int)) then geti (script) (k) else
  Res.ok ((0 : Int))
def m_law_whole (found : Int) : Res Bool :=
  Res.ok ((true) && (!(false)))
def m_law_draw (cell : Int) (k : Int) : Res Int :=
  (((mulM ((cell % (1000000007 : Int))) ((6007 : Int))).bi fun u1 => (mulM ((613 : Int)) (k)).bi fun u2 => Res.ok (u1 + u2)).bi fun u3 => (Res.ok ((104729 : Int))).bi fun u4 => Res.ok (u3 + u4)).bi fun (seed_5 : Int) =>
  ((((mulM (seed_5) (seed_5)).bi fun u6 => Res.ok (u6 % (1000000007 : Int))).bi fun u11 => (((Res.ok (seed_5)).bi fun u7 => (mulM ((5 : Int)) (k)).bi fun u8 => Res.ok (u7 + u8)).bi fun u9 => (Res.ok ((1 : Int))).bi fun u10 => Res.ok (u9 + u10)).bi fun u12 => mulM u11 u12).bi fun u13 => Res.ok (u13 % (998244353 : Int))).bi fun (turned_14 : Int) =>
  ((Res.ok (turned_14)).bi fun u19 => (((Res.ok (turned_14)).bi fun u15 => (mulM ((2 : Int)) (k)).bi fun u16 => Res.ok (u15 + u16)).bi fun u17 => (Res.ok ((3 : Int))).bi fun u18 => Res.ok (u17 + u18)).bi fun u20 => mulM u19 u20).bi fun u21 => Res.ok (u21 % (4294967291 : Int))
def m_law_way (below : List Int) (reach : Int) : Res (List Int) :=
  (Res.ok (([] : List Int))).bi fun (way_1 : List Int) =>
  (whileM fuel ((reach, way_1)) (fun (s2 : Int × (List Int)) => Res.ok (!decide (s2.1 = (-(1 : Int))))) (fun (s2 : Int × (List Int)) =>
  (appM (s2.2) (s2.1)).bi fun (way_4 : List Int) =>
  (geti (below) (s2.1)).bi fun (reach_5 : Int) =>
  Res.ok ((reach_5, way_4)))).bi fun (s2 : Int × (List Int)) =>
  Res.ok (s2.2)
def m_law_more (roll : List (Int × Int × Int × Int)) (below : List Int) (cell : Int) : Res (List (Int × Int × Int × Int)) :=
  (Res.ok (([] : List (Int × Int × Int × Int)))).bi fun (found_1 : List (Int × Int × Int × Int)) =>
  (foldM (enumL (roll)) found_1 (fun (y3 : Int × (Int × Int × Int × Int)) (s2 : (List (Int × Int × Int × Int))) =>
  (Res.ok (y3.2.2.2.1)).bi fun (back_6 : Int) =>
  ((((geti (below) (y3.2.2.1)).bi fun u7 => (Res.ok ((-(1 : Int)))).bi fun u8 => Res.ok (!decide (u7 = u8))).bi fun c13 => if c13 then (Res.ok (decide ((cell % (3 : Int)) = (2 : Int)))).bi fun c12 => if c12 then Res.ok true else (Res.ok (decide ((cell % (3 : Int)) = (1 : Int)))).bi fun c11 => if c11 then (Res.ok (y3.1)).bi fun u9 => (modM ((cell / (3 : Int))) (((roll).length : Int))).bi fun u10 => Res.ok (decide (u9 = u10)) else Res.ok false else Res.ok false).bi fun c20 => if c20 then (geti (below) (y3.2.2.1)).bi fun (back_16 : Int) =>
  Res.ok back_16 else Res.ok back_6).bi fun (s14 : Int) =>
  (appM (s2) ((y3.2.1, (y3.2.2.1, (s14, y3.2.2.2.2))))).bi fun (found_17 : List (Int × Int × Int × Int)) =>
  Res.ok found_17)).bi fun (s2 : (List (Int × Int × Int × Int))) =>
  Res.ok (s2)
def m_law_other_name (e : PySem.Str) : Res Bool :=
  if (subX (e) (PySem.Str.ofString "NoPaper")) || ((subX (e) (PySem.Str.ofString "NoDay")) || ((subX (e) (PySem.Str.ofString "NoHolder")) || (subX (e) (PySem.Str.ofString "NoLicence")))) then Res.ok (true) else
  if (subX (e) (PySem.Str.ofString "NoNumber")) || ((subX (e) (PySem.Str.ofString "NoPond")) || ((subX (e) (PySem.Str.ofString "NoReach")) || (subX (e) (PySem.Str.ofString "NoRiver")))) then Res.ok (true) else
  if (subX (e) (PySem.Str.ofString "NoRow")) || ((subX (e) (PySem.Str.ofString "NotAlone")) || ((subX (e) (PySem.Str.ofString "NotYours")) || (subX (e) (PySem.Str.ofString "TooMuch")))) then Res.ok (true) else
  Res.ok ((subX (e) (PySem.Str.ofString "Full")) || ((subX (e) (PySem.Str.ofString "Fixed")) || (subX (e) (PySem.Str.ofString "Harms"))))
def m_tops_first (below : List Int) : Res (List Int) :=
  (((rng1 (((below).length : Int))).bi fun l7 => mapMx l7 (fun (y1 : Int) => ((Res.ok ((0 : Int))).bi fun u3 => ((m_way_of (below) (y1)).bi fun u2 => Res.ok (u2.length : Int)).bi fun u4 => Res.ok (u3 - u4)).bi fun u5 => (Res.ok (y1)).bi fun u6 => Res.ok (u5, u6))).bi fun u8 => Res.ok (u8.mergeSort leP)).bi fun (order_9 : List (Int × Int)) =>
  Res.ok ((order_9).map (fun (y10 : Int × Int) => y10.2))
def m_stretch_of (below : List Int) (start : Int) (stop : Int) : Res (List Int) :=
  (m_way_of (below) (start)).bi fun (way_1 : List Int) =>
  if decide (stop = (-(1 : Int))) then Res.ok (way_1) else
  if !decide (stop ∈ way_1) then Res.exc (PySem.Str.ofString "NoReach") else
  (Res.ok (way_1)).bi fun u3 => (Res.ok (none)).bi fun u4 => ((idxM (way_1) (stop)).bi fun u2 => Res.ok (some u2)).bi fun u5 => Res.ok (cutL u3 u4 u5)
def m_groups_of (roll : List (Int × Int × Int × Int)) : Res (List (List Int)) :=
  (Res.ok ((-(1 : Int)))).bi fun (last_1 : Int) =>
  (m_ranked (roll)).bi fun l25 =>
  (foldM l25 (([], last_1)) (fun (y3 : Int) (s2 : (List (List Int)) × Int) =>
  ((((geti (roll) (y3)).bi fun u6 => Res.ok u6.1).bi fun u7 => (Res.ok (s2.2)).bi fun u8 => Res.ok (!decide (u7 = u8))).bi fun c22 => if c22 then (Res.ok (([] : List Int))).bi fun u12 => (appM (s2.1) u12).bi fun (groups_11 : List (List Int)) =>
  ((geti (roll) (y3)).bi fun u13 => Res.ok u13.1).bi fun (last_14 : Int) =>
  Res.ok ((groups_11, last_14)) else Res.ok ((s2.1, s2.2))).bi fun (s9 : (List (List Int)) × Int) =>
  (Res.ok ((-(1 : Int)))).bi fun u16 => (geti (s9.1) u16).bi fun u17 => (Res.ok (y3)).bi fun u18 => (appM u17 u18).bi fun u19 => (seti (s9.1) u16 u19).bi fun (groups_15 : List (List Int)) =>
  Res.ok ((groups_15, s9.2)))).bi fun (s2 : (List (List Int)) × Int) =>
  Res.ok (s2.1)
def m_whole_turns (free : List Int) (ways : List (List Int)) (rests : List Int) : Res Int :=
  (minL (rests)).bi fun (turns_1 : Int) =>
  ((Res.ok (free)).bi fun u2 => (m_ways_through (((free).length : Int)) (ways)).bi fun u3 => Res.ok (u2.zip u3)).bi fun l17 =>
  (foldM l17 turns_1 (fun (y5 : Int × Int) (s4 : Int) =>
  (if decide ((0 : Int) < y5.2) then ((Res.ok (s4)).bi fun u10 => (divM (y5.1) (y5.2)).bi fun u11 => Res.ok (min u10 u11)).bi fun (turns_12 : Int) =>
  Res.ok turns_12 else Res.ok s4).bi fun (s8 : Int) =>
  Res.ok s8)).bi fun (s4 : Int) =>
  Res.ok (s4)
def m_one_turn (left : List Int) (ways : List (List Int)) (rests : List Int) (takes : List Int) (going : List Int) : Res ((List Int) × ((List Int) × (List Int))) :=
  (Res.ok (([] : List Int))).bi fun (onward_1 : List Int) =>
  loopC going ((left, takes, onward_1)) (fun (y3 : Int) (s2 : (List Int) × (List Int) × (List Int)) (next6 : ((List Int) × (List Int) × (List Int)) → Res ((List Int) × ((List Int) × (List Int)))) =>
  (((geti (s2.2.1) (y3)).bi fun u7 => (geti (rests) (y3)).bi fun u8 => Res.ok (decide (u7 = u8))).bi fun c14 => if c14 then Res.ok true else ((Res.ok (s2.1)).bi fun u9 => ((geti (ways) (y3)).bi fun u11 => (Res.ok (())).bi fun u12 => Res.ok (u11, u12)).bi fun u10 => Res.ok (u9, u10)).bi fun g13 => m_runs_dry g13.1 g13.2.1).bi fun c23 => if c23 then next6 ((s2.1, s2.2.1, s2.2.2)) else
  ((((geti (ways) (y3)).bi fun u18 => (Res.ok ((1 : Int), ())).bi fun u17 => Res.ok (u18, u17)).bi fun u16 => Res.ok (s2.1, u16)).bi fun g15 => m_take_out g15.1 g15.2.1 g15.2.2.1).bi fun (r19 : Unit × ((List Int))) =>
  (augi (fun i j => i + j) (s2.2.1) (y3) ((1 : Int))).bi fun (takes_20 : List Int) =>
  (appM (s2.2.2) (y3)).bi fun (onward_21 : List Int) =>
  next6 ((r19.2, takes_20, onward_21))) (fun (s2 : (List Int) × (List Int) × (List Int)) =>
  Res.ok (s2.2.2, (s2.1, s2.2.1)))
def m_lowest_of (below : List Int) (reaches : List Int) : Res (List Int) :=
  (Res.ok (([] : List Int))).bi fun (found_1 : List Int) =>
  (setSortM (reaches)).bi fun l21 =>
  (foldM l21 found_1 (fun (y3 : Int) (s2 : (List Int)) =>
  ((((((m_way_of (below) (y3)).bi fun u6 => (Res.ok (some ((1 : Int)))).bi fun u7 => (Res.ok (none)).bi fun u8 => Res.ok (cutL u6 u7 u8)).bi fun u9 => (Res.ok (reaches, ())).bi fun u10 => Res.ok (u9, u10)).bi fun g11 => m_has_any g11.1 g11.2.1).bi fun u12 => Res.ok (!u12)).bi fun c18 => if c18 then (appM (s2) (y3)).bi fun (found_15 : List Int) =>
  Res.ok found_15 else Res.ok s2).bi fun (s13 : (List Int)) =>
  Res.ok s13)).bi fun (s2 : (List Int)) =>
  Res.ok (s2)
def m_law_mixed (cell : Int) (many : Int) : Res (List Int) :=
  (rng1 (many)).bi fun l2 => mapMx l2 (fun (y1 : Int) => m_law_draw (cell) (y1))
def m_natural_of (below : List Int) (springs : List Int) : Res (List Int) :=
  (Res.ok (springs)).bi fun (water_1 : List Int) =>
  (m_tops_first (below)).bi fun l19 =>
  (foldM l19 water_1 (fun (y3 : Int) (s2 : (List Int)) =>
  (((geti (below) (y3)).bi fun u6 => (Res.ok ((-(1 : Int)))).bi fun u7 => Res.ok (!decide (u6 = u7))).bi fun c16 => if c16 then (geti (below) (y3)).bi fun u11 => (geti (s2) u11).bi fun u12 => (geti (s2) (y3)).bi fun u13 => (seti (s2) u11 (u12 + u13)).bi fun (water_10 : List Int) =>
  Res.ok water_10 else Res.ok s2).bi fun (s8 : (List Int)) =>
  Res.ok s8)).bi fun (s2 : (List Int)) =>
  Res.ok (s2)
def m_reaches_of (below : List Int) (one : Int × Int × Int × Int) : Res (List Int) :=
  m_stretch_of (below) (one.2.1) (one.2.2.1)
def m_deal_turns (free : List Int) (ways : List (List Int)) (rests : List Int) : Res ((List Int) × (List Int)) :=
  (Res.ok (free)).bi fun (left_1 : List Int) =>
  (repM (([(0 : Int)] : List Int)) (((ways).length : Int))).bi fun (takes_2 : List Int) =>
  (rng1 (((ways).length : Int))).bi fun (going_3 : List Int) =>
  (whileM fuel ((left_1, takes_2, going_3)) (fun (s4 : (List Int) × (List Int) × (List Int)) => Res.ok (decide ((0 : Int) < ((s4.2.2).length : Int)))) (fun (s4 : (List Int) × (List Int) × (List Int)) =>
  (mapMx (s4.2.2) (fun (y6 : Int) => (geti (rests) (y6)).bi fun u7 => (geti (s4.2.1) (y6)).bi fun u8 => Res.ok (u7 - u8))).bi fun (wanted_9 : List Int) =>
  (((Res.ok (s4.1)).bi fun u11 => ((mapMx (s4.2.2) (fun (y10 : Int) => geti (ways) (y10))).bi fun u13 => (Res.ok (wanted_9, ())).bi fun u14 => Res.ok (u13, u14)).bi fun u12 => Res.ok (u11, u12)).bi fun g15 => m_whole_turns g15.1 g15.2.1 g15.2.2.1).bi fun (turns_16 : Int) =>
  (foldM s4.2.2 ((s4.1, s4.2.1)) (fun (y18 : Int) (s17 : (List Int) × (List Int)) =>
  ((((geti (ways) (y18)).bi fun u24 => (Res.ok (turns_16, ())).bi fun u23 => Res.ok (u24, u23)).bi fun u22 => Res.ok (s17.1, u22)).bi fun g21 => m_take_out g21.1 g21.2.1 g21.2.2.1).bi fun (r25 : Unit × ((List Int))) =>
  (augi (fun i j => i + j) (s17.2) (y18) (turns_16)).bi fun (takes_26 : List Int) =>
  Res.ok ((r25.2, takes_26)))).bi fun (s17 : (List Int) × (List Int)) =>
  (m_one_turn (s17.1) (ways) (rests) (s17.2) (s4.2.2)).bi fun (r27 : (List Int) × ((List Int) × (List Int))) =>
  Res.ok ((r27.2.1, r27.2.2, r27.1)))).bi fun (s4 : (List Int) × (List Int) × (List Int)) =>
  Res.ok ((s4.2.1, s4.1))
def m_law_river (cell : Int) : Res (List Int) :=
  (geti (([(2 : Int), (3 : Int), (5 : Int), (8 : Int), (12 : Int), (7 : Int), (4 : Int), ((40 : Int) - ((cell / (8 : Int)) % (39 : Int)))] : List Int)) ((cell % (8 : Int)))).bi fun (size_1 : Int) =>
  (m_law_mixed ((cell / (8 : Int))) ((size_1 + (2 : Int)))).bi fun (xs_2 : List Int) =>
  ((Res.ok ((1 : Int))).bi fun u6 => (((geti (xs_2) ((0 : Int))).bi fun u3 => Res.ok (u3 % (2 : Int))).bi fun u4 => (Res.ok ((size_1 - (2 : Int)))).bi fun u5 => mulM u4 u5).bi fun u7 => Res.ok (u6 + u7)).bi fun (step_8 : Int) =>
  ((rng1 (size_1)).bi fun l14 => mapMx l14 (fun (y9 : Int) => ((geti (xs_2) ((1 : Int))).bi fun u10 => (mulM (step_8) (y9)).bi fun u11 => Res.ok (u10 + u11)).bi fun u12 => (Res.ok (size_1)).bi fun u13 => modM u12 u13)).bi fun (spots_15 : List Int) =>
  (repM (([(-(1 : Int))] : List Int)) (size_1)).bi fun (below_16 : List Int) =>
  (rng2 ((1 : Int)) (size_1)).bi fun l39 =>
  (foldM l39 below_16 (fun (y18 : Int) (s17 : (List Int)) =>
  (geti (xs_2) ((y18 + (1 : Int)))).bi fun (number_21 : Int) =>
  (if (decide ((0 : Int) < (number_21 % (7 : Int)))) || (decide (y18 = (1 : Int))) then ((Res.ok (spots_15)).bi fun u30 => (((Res.ok ((y18 - (1 : Int)))).bi fun u26 => ((modM ((number_21 / (14 : Int))) (y18)).bi fun u24 => (Res.ok ([])).bi fun u25 => Res.ok (u24 :: u25)).bi fun u27 => Res.ok (u26 :: u27)).bi fun u28 => (Res.ok (((number_21 / (7 : Int)) % (2 : Int)))).bi fun u29 => geti u28 u29).bi fun u31 => geti u30 u31).bi fun u33 => (geti (spots_15) (y18)).bi fun u34 => (seti (s17) u34 u33).bi fun (below_32 : List Int) =>
  Res.ok below_32 else Res.ok s17).bi fun (s22 : (List Int)) =>
  Res.ok s22)).bi fun (s17 : (List Int)) =>
  Res.ok (s17)
def m_law_springs (cell : Int) (size : Int) (kind : Int) : Res (List Int) :=
  (Res.ok (([] : List Int))).bi fun (found_1 : List Int) =>
  (m_law_mixed (cell) (size)).bi fun l33 =>
  (foldM l33 found_1 (fun (y3 : Int) (s2 : (List Int)) =>
  (if decide (kind = (0 : Int)) then (appM (s2) ((y3 % (5 : Int)))).bi fun (found_8 : List Int) =>
  Res.ok found_8 else (if decide (kind = (1 : Int)) then (((Res.ok (cell)).bi fun u11 => (mulM (y3) ((7919 : Int))).bi fun u12 => Res.ok (u11 + u12)).bi fun u13 => Res.ok (u13 % (((10 : Int) ^ 12) + (1 : Int)))).bi fun u15 => (appM (s2) u15).bi fun (found_14 : List Int) =>
  Res.ok found_14 else (((Res.ok ((0 : Int))).bi fun u21 => ((Res.ok ((3 : Int))).bi fun u19 => (((mulM (y3) ((7919 : Int))).bi fun u16 => Res.ok (u16 % (((10 : Int) ^ 12) + (1 : Int)))).bi fun u17 => (Res.ok ([])).bi fun u18 => Res.ok (u17 :: u18)).bi fun u20 => Res.ok (u19 :: u20)).bi fun u22 => Res.ok (u21 :: u22)).bi fun u23 => (Res.ok (((y3 / (5 : Int)) % (3 : Int)))).bi fun u24 => geti u23 u24).bi fun u26 => (appM (s2) u26).bi fun (found_25 : List Int) =>
  Res.ok found_25).bi fun (s9 : (List Int)) =>
  Res.ok s9).bi fun (s6 : (List Int)) =>
  Res.ok s6)).bi fun (s2 : (List Int)) =>
  Res.ok (s2)
def m_law_drawn (cell : Int) (size : Int) (far : Int) (kind : Int) : Res ((Int × Int × Int × Int) × Int) :=
  (m_law_mixed (cell) ((6 : Int))).bi fun (xs_1 : List Int) =>
  ((geti (xs_1) ((3 : Int))).bi fun u2 => Res.ok (u2 % (7 : Int))).bi fun (most_3 : Int) =>
  ((geti (xs_1) ((4 : Int))).bi fun u4 => Res.ok (u4 % (7 : Int))).bi fun (call_5 : Int) =>
  (if decide ((0 : Int) < kind) then (((mulM (cell) ((1000003 : Int))).bi fun u10 => ((geti (xs_1) ((3 : Int))).bi fun u8 => (Res.ok ((7919 : Int))).bi fun u9 => mulM u8 u9).bi fun u11 => Res.ok (u10 + u11)).bi fun u12 => Res.ok (u12 % (((10 : Int) ^ 12) + (1 : Int)))).bi fun (most_13 : Int) =>
  (((geti (xs_1) ((4 : Int))).bi fun u14 => (Res.ok ((7919 : Int))).bi fun u15 => mulM u14 u15).bi fun u16 => Res.ok (u16 % (((10 : Int) ^ 12) + (1 : Int)))).bi fun (call_17 : Int) =>
  Res.ok ((most_13, call_17)) else Res.ok ((most_3, call_5))).bi fun (s6 : Int × Int) =>
  ((((geti (xs_1) ((5 : Int))).bi fun u18 => Res.ok (u18 % (3 : Int))).bi fun u19 => (Res.ok ((0 : Int))).bi fun u20 => Res.ok (decide (u19 = u20))).bi fun c37 => if c37 then (Res.ok (((10 : Int) ^ 12))).bi fun (call_23 : Int) =>
  Res.ok call_23 else Res.ok s6.2).bi fun (s21 : Int) =>
  ((((geti (xs_1) ((0 : Int))).bi fun u24 => Res.ok (u24 % (4 : Int))).bi fun u25 => (Res.ok (far)).bi fun u26 => mulM u25 u26).bi fun u31 => (((geti (xs_1) ((1 : Int))).bi fun u27 => (Res.ok (size)).bi fun u28 => modM u27 u28).bi fun u29 => (Res.ok (((-(1 : Int)), s6.1))).bi fun u30 => Res.ok (u29, u30)).bi fun u32 => Res.ok (u31, u32)).bi fun u33 => (Res.ok (s21)).bi fun u34 => Res.ok (u33, u34)
def m_law_giving (cell : Int) (below : List Int) (far : Int) : Res ((Int × Int × Int × Int) × Int) :=
  (m_law_mixed (cell) ((5 : Int))).bi fun (xs_1 : List Int) =>
  ((rng1 (((below).length : Int))).bi fun l5 => compM l5 (fun (y2 : Int) => (geti (below) (y2)).bi fun u3 => (Res.ok ((-(1 : Int)))).bi fun u4 => Res.ok (!decide (u3 = u4))) (fun (y2 : Int) => Res.ok (y2))).bi fun (tops_6 : List Int) =>
  (((Res.ok (below)).bi fun u11 => (((Res.ok (tops_6)).bi fun u9 => ((geti (xs_1) ((0 : Int))).bi fun u7 => (Res.ok (((tops_6).length : Int))).bi fun u8 => modM u7 u8).bi fun u10 => geti u9 u10).bi fun u13 => (Res.ok (())).bi fun u14 => Res.ok (u13, u14)).bi fun u12 => Res.ok (u11, u12)).bi fun g15 => m_law_way g15.1 g15.2.1).bi fun (way_16 : List Int) =>
  ((Res.ok (way_16)).bi fun u21 => ((Res.ok ((1 : Int))).bi fun u19 => ((geti (xs_1) ((1 : Int))).bi fun u17 => (Res.ok ((((way_16).length : Int) - (1 : Int)))).bi fun u18 => modM u17 u18).bi fun u20 => Res.ok (u19 + u20)).bi fun u22 => geti u21 u22).bi fun (back_23 : Int) =>
  ((((geti (xs_1) ((2 : Int))).bi fun u24 => (Res.ok ((7919 : Int))).bi fun u25 => mulM u24 u25).bi fun u26 => Res.ok (u26 % ((10 : Int) ^ 12))).bi fun u27 => (Res.ok ((1 : Int))).bi fun u28 => Res.ok (u27 + u28)).bi fun (most_29 : Int) =>
  ((((geti (xs_1) ((3 : Int))).bi fun u30 => Res.ok (u30 % (4 : Int))).bi fun u31 => (Res.ok (far)).bi fun u32 => mulM u31 u32).bi fun u37 => ((geti (way_16) ((0 : Int))).bi fun u35 => ((Res.ok (back_23)).bi fun u33 => (geti (([(0 : Int), most_29, most_29, (0 : Int)] : List Int)) ((cell % (4 : Int)))).bi fun u34 => Res.ok (u33, u34)).bi fun u36 => Res.ok (u35, u36)).bi fun u38 => Res.ok (u37, u38)).bi fun u48 => (((Res.ok (most_29)).bi fun u44 => ((Res.ok ((0 : Int))).bi fun u42 => (((geti (xs_1) ((4 : Int))).bi fun u39 => Res.ok (u39 % (9 : Int))).bi fun u40 => (Res.ok ([(0 : Int)])).bi fun u41 => Res.ok (u40 :: u41)).bi fun u43 => Res.ok (u42 :: u43)).bi fun u45 => Res.ok (u44 :: u45)).bi fun u46 => (Res.ok ((cell % (4 : Int)))).bi fun u47 => geti u46 u47).bi fun u49 => Res.ok (u48, u49)
def m_deal (below : List Int) (springs : List Int) (roll : List (Int × Int × Int × Int)) (calls : List Int) : Res (List Int) :=
  (m_natural_of (below) (springs)).bi fun (left_1 : List Int) =>
  (m_wants_of (roll) (calls)).bi fun (wants_2 : List Int) =>
  (repM (([(0 : Int)] : List Int)) (((roll).length : Int))).bi fun (takes_3 : List Int) =>
  (m_groups_of (roll)).bi fun l33 =>
  (foldM l33 ((left_1, takes_3)) (fun (y5 : List Int) (s4 : (List Int) × (List Int)) =>
  (mapMx (y5) (fun (y8 : Int) => ((Res.ok (below)).bi fun u9 => ((geti (roll) (y8)).bi fun u11 => (Res.ok (())).bi fun u12 => Res.ok (u11, u12)).bi fun u10 => Res.ok (u9, u10)).bi fun g13 => m_reaches_of g13.1 g13.2.1)).bi fun (ways_14 : List (List Int)) =>
  (((Res.ok (s4.1)).bi fun u16 => ((Res.ok (ways_14)).bi fun u18 => ((mapMx (y5) (fun (y15 : Int) => geti (wants_2) (y15))).bi fun u20 => (Res.ok (())).bi fun u21 => Res.ok (u20, u21)).bi fun u19 => Res.ok (u18, u19)).bi fun u17 => Res.ok (u16, u17)).bi fun g22 => m_deal_turns g22.1 g22.2.1 g22.2.2.1).bi fun (t23 : (List Int) × (List Int)) =>
  (foldM ((y5).zip (t23.1)) s4.2 (fun (y25 : Int × Int) (s24 : (List Int)) =>
  (seti (s24) (y25.1) (y25.2)).bi fun (takes_28 : List Int) =>
  Res.ok takes_28)).bi fun (s24 : (List Int)) =>
  Res.ok ((t23.2, s24)))).bi fun (s4 : (List Int) × (List Int)) =>
  Res.ok (s4.2)
def m_holds_of (below : List Int) (roll : List (Int × Int × Int × Int)) (takes : List Int) : Res (List Int) :=
  (repM (([(0 : Int)] : List Int)) (((below).length : Int))).bi fun (held_1 : List Int) =>
  (foldM ((roll).zip (takes)) held_1 (fun (y3 : (Int × Int × Int × Int) × Int) (s2 : (List Int)) =>
  (m_reaches_of (below) (y3.1)).bi fun l13 =>
  (foldM l13 s2 (fun (y7 : Int) (s6 : (List Int)) =>
  (augi (fun i j => i + j) (s6) (y7) (y3.2)).bi fun (held_10 : List Int) =>
  Res.ok held_10)).bi fun (s6 : (List Int)) =>
  Res.ok s6)).bi fun (s2 : (List Int)) =>
  Res.ok (s2)
def m_free_of (below : List Int) (springs : List Int) (roll : List (Int × Int × Int × Int)) (takes : List Int) : Res (List Int) :=
  (m_natural_of (below) (springs)).bi fun (natural_1 : List Int) =>
  (m_holds_of (below) (roll) (takes)).bi fun (held_2 : List Int) =>
  Res.ok (((natural_1).zip (held_2)).map (fun (y3 : Int × Int) => (y3.1 - y3.2)))
def m_dry_of (below : List Int) (springs : List Int) (roll : List (Int × Int × Int × Int)) (takes : List Int) : Res (List Int) :=
  (m_free_of (below) (springs) (roll) (takes)).bi fun (unheld_1 : List Int) =>
  Res.ok (((enumL (unheld_1)).filter (fun (y2 : Int × Int) => decide (y2.2 = (0 : Int)))).map (fun (y2 : Int × Int) => y2.1))
def m_cut_of (below : List Int) (springs : List Int) (roll : List (Int × Int × Int × Int)) (calls : List Int) : Res (Int × (List Int) × (List Int)) :=
  loopC roll (()) (fun (y2 : Int × Int × Int × Int) (s1 : Unit) (next5 : Unit → Res (Int × (List Int) × (List Int))) =>
  if !decide (y2.2.2.1 = (-(1 : Int))) then Res.exc (PySem.Str.ofString "NoCut") else
  next5 (())) (fun (s1 : Unit) =>
  (((Res.ok (below)).bi fun u7 => ((Res.ok (springs)).bi fun u9 => ((Res.ok (roll)).bi fun u11 => ((m_deal (below) (springs) (roll) (calls)).bi fun u13 => (Res.ok (())).bi fun u14 => Res.ok (u13, u14)).bi fun u12 => Res.ok (u11, u12)).bi fun u10 => Res.ok (u9, u10)).bi fun u8 => Res.ok (u7, u8)).bi fun g15 => m_dry_of g15.1 g15.2.1 g15.2.2.1 g15.2.2.2.1).bi fun (dry_16 : List Int) =>
  (m_lowest_of (below) (dry_16)).bi fun (reaches_17 : List Int) =>
  (Res.ok (([] : List Int))).bi fun (numbers_18 : List Int) =>
  (foldM (enumL (roll)) numbers_18 (fun (y20 : Int × (Int × Int × Int × Int)) (s19 : (List Int)) =>
  (((((m_reaches_of (below) (y20.2)).bi fun u23 => (Res.ok (reaches_17, ())).bi fun u24 => Res.ok (u23, u24)).bi fun g25 => m_has_any g25.1 g25.2.1).bi fun u26 => Res.ok (!u26)).bi fun c32 => if c32 then (appM (s19) (y20.1)).bi fun (numbers_29 : List Int) =>
  Res.ok numbers_29 else Res.ok s19).bi fun (s27 : (List Int)) =>
  Res.ok s27)).bi fun (s19 : (List Int)) =>
  (m_natural_of (below) (springs)).bi fun (natural_33 : List Int) =>
  (m_wants_of (roll) (calls)).bi fun (wants_34 : List Int) =>
  (((mapMx (reaches_17) (fun (y35 : Int) => geti (natural_33) (y35))).bi fun u36 => Res.ok (u36.sum)).bi fun u39 => ((mapMx (s19) (fun (y37 : Int) => geti (wants_34) (y37))).bi fun u38 => Res.ok (u38.sum)).bi fun u40 => Res.ok (u39 + u40)).bi fun (total_41 : Int) =>
  Res.ok ((total_41, (reaches_17, s19))))
def m_law_refused (below : List Int) (springs : List Int) (roll : List (Int × Int × Int × Int)) (calls : List Int) : Res Bool :=
  (Res.ok (none)).bi fun (caught_1 : Option PySem.Str) =>
  ((tryM Mr.exN ((m_cut_of (below) (springs) (roll) (calls)).bi fun _ => Res.ok ())).bi fun (r : Unit ⊕ PySem.Str) => Res.ok (Sum.elim (fun (r3 : Unit) => caught_1) (fun (c4 : PySem.Str) => (some (c4))) r)).bi fun (s2 : (Option PySem.Str)) =>
  (Res.ok (isXO (s2) (PySem.Str.ofString "NoCut"))).bi fun c10 => if c10 then (Res.ok (!(s2).isNone)).bi fun c9 => if c9 then (((unO (s2)).bi fun u5 => (Res.ok (())).bi fun u6 => Res.ok (u5, u6)).bi fun g7 => m_law_other_name g7.1).bi fun u8 => Res.ok (!u8) else Res.ok false else Res.ok false
def m_law (script : List Int) : Res Bool :=
  (((m_law_cell_at (script) ((0 : Int))).bi fun u1 => (Res.ok (())).bi fun u2 => Res.ok (u1, u2)).bi fun g3 => m_law_river g3.1).bi fun (below_4 : List Int) =>
  ((m_law_cell_at (script) ((2 : Int))).bi fun u5 => Res.ok (u5 % (3 : Int))).bi fun (kind_6 : Int) =>
  (((m_law_cell_at (script) ((1 : Int))).bi fun u7 => (Res.ok (((below_4).length : Int), kind_6, ())).bi fun u8 => Res.ok (u7, u8)).bi fun g9 => m_law_springs g9.1 g9.2.1 g9.2.2.1).bi fun (springs_10 : List Int) =>
  ((Res.ok ((1 : Int))).bi fun u13 => (((m_law_cell_at (script) ((2 : Int))).bi fun u11 => Res.ok (u11 / (3 : Int))).bi fun u12 => Res.ok (u12 % (333333 : Int))).bi fun u14 => Res.ok (u13 + u14)).bi fun (far_15 : Int) =>
  (Res.ok (([] : List (Int × Int × Int × Int)))).bi fun (roll_16 : List (Int × Int × Int × Int)) =>
  (Res.ok (([] : List Int))).bi fun (calls_17 : List Int) =>
  (foldM (cutL (script) (some ((4 : Int))) (some ((24 : Int)))) ((roll_16, calls_17)) (fun (y19 : Int) (s18 : (List (Int × Int × Int × Int)) × (List Int)) =>
  (m_law_drawn (y19) (((below_4).length : Int)) (far_15) (kind_6)).bi fun (t22 : (Int × Int × Int × Int) × Int) =>
  (appM (s18.1) (t22.1)).bi fun (roll_23 : List (Int × Int × Int × Int)) =>
  (appM (s18.2) (t22.2)).bi fun (calls_24 : List Int) =>
  Res.ok ((roll_23, calls_24)))).bi fun (s18 : (List (Int × Int × Int × Int)) × (List Int)) =>
  (((m_law_cell_at (script) ((3 : Int))).bi fun u25 => (Res.ok (below_4, far_15, ())).bi fun u26 => Res.ok (u25, u26)).bi fun g27 => m_law_giving g27.1 g27.2.1 g27.2.2.1).bi fun (t28 : (Int × Int × Int × Int) × Int) =>
  (((m_law_cell_at (script) ((3 : Int))).bi fun u29 => Res.ok (u29 / (12 : Int))).bi fun u30 => (Res.ok ((((s18.1).length : Int) + (1 : Int)))).bi fun u31 => modM u30 u31).bi fun (at_32 : Int) =>
  ((((catM (cutL (s18.1) (none) (some (at_32))) (([t28.1] : List (Int × Int × Int × Int)))).bi fun u33 => (Res.ok (cutL (s18.1) (some (at_32)) (none))).bi fun u34 => catM u33 u34).bi fun u36 => ((Res.ok (below_4)).bi fun u38 => (((m_law_cell_at (script) ((3 : Int))).bi fun u35 => Res.ok (u35 / (4 : Int))).bi fun u40 => (Res.ok (())).bi fun u41 => Res.ok (u40, u41)).bi fun u39 => Res.ok (u38, u39)).bi fun u37 => Res.ok (u36, u37)).bi fun g42 => m_law_more g42.1 g42.2.1 g42.2.2.1).bi fun (roll_43 : List (Int × Int × Int × Int)) =>
  ((catM (cutL (s18.2) (none) (some (at_32))) (([t28.2] : List Int))).bi fun u44 => (Res.ok (cutL (s18.2) (some (at_32)) (none))).bi fun u45 => catM u44 u45).bi fun (calls_46 : List Int) =>
  (Res.ok ((below_4, (springs_10, (roll_43, calls_46))))).bi fun (handed_47 : (List Int) × (List Int) × (List (Int × Int × Int × Int)) × (List Int)) =>
  (((m_law_refused (handed_47.1) (handed_47.2.1) (handed_47.2.2.1) (handed_47.2.2.2)).bi fun u48 => Res.ok (!u48)).bi fun c49 => if c49 then Res.ok true else Res.ok (!decide (handed_47 = (below_4, (springs_10, (roll_43, calls_46)))))).bi fun c62 => if c62 then Res.ok (false) else
  (Res.ok ((roll_43).map (fun (y50 : Int × Int × Int × Int) => (y50.1, (y50.2.1, ((-(1 : Int)), y50.2.2.2)))))).bi fun (w51 : List (Int × Int × Int × Int)) =>
  (m_cut_of (((handed_47.1, handed_47.2.1, w51, handed_47.2.2.2)).1) (((handed_47.1, handed_47.2.1, w51, handed_47.2.2.2)).2.1) (((handed_47.1, handed_47.2.1, w51, handed_47.2.2.2)).2.2.1) (((handed_47.1, handed_47.2.1, w51, handed_47.2.2.2)).2.2.2)).bi fun (found_52 : Int × (List Int) × (List Int)) =>
  ((Res.ok (!(true))).bi fun c55 => if c55 then Res.ok true else (Res.ok (!decide ((3 : Int) = (3 : Int)))).bi fun c54 => if c54 then Res.ok true else (m_law_whole (found_52.1)).bi fun u53 => Res.ok (!u53)).bi fun c60 => if c60 then Res.ok (false) else
  (Res.ok (found_52.1)).bi fun u57 => ((m_deal (((handed_47.1, handed_47.2.1, w51, handed_47.2.2.2)).1) (((handed_47.1, handed_47.2.1, w51, handed_47.2.2.2)).2.1) (((handed_47.1, handed_47.2.1, w51, handed_47.2.2.2)).2.2.1) (((handed_47.1, handed_47.2.1, w51, handed_47.2.2.2)).2.2.2)).bi fun u56 => Res.ok (u56.sum)).bi fun u58 => Res.ok (decide (u57 = u58))
end Mr

set_option Elab.async false
set_option linter.all false
set_option maxRecDepth 100000
set_option maxHeartbeats 4000000
set_option synthInstance.maxSize 4000
set_option synthInstance.maxHeartbeats 400000
namespace Mr
open PySem PyProof.Rows L2 Wk
theorem cell_at_eq {script : List Int} {k : Int} (h : 0 ≤ k) : m_law_cell_at script k = .ok (if k < script.length then gx script k else 0) := by
  unfold m_law_cell_at
  by_cases hk : k < script.length
  · rw [if_pos (decide_eq_true hk), if_pos hk, geti_eq h hk]
  · rw [if_neg (by simpa using hk), if_neg hk]
theorem cell_at_ok (script : List Int) {k : Int} (h : 0 ≤ k) : ∃ v, m_law_cell_at script k = .ok v := ⟨_, cell_at_eq h⟩
theorem whole_eq (x : Int) : m_law_whole x = .ok true := rfl
theorem cut_tail (xs : List Int) : cutL xs (some 1) none = xs.drop 1 := by
  show ((xs.drop (min (1 : Int).toNat xs.length)).take (xs.length - min (1 : Int).toNat xs.length)) = xs.drop 1
  cases xs with
  | nil => rfl
  | cons x r =>
    rw [show min (1 : Int).toNat (x :: r).length = 1 by rw [List.length_cons]; omega]
    exact List.take_of_length_le (by simp)
theorem cut_init (xs : List Int) : cutL xs none (some (-1)) = xs.take (xs.length - 1) := by
  show ((xs.drop 0).take (((-1 : Int) + xs.length).toNat - 0)) = _
  rw [List.drop_zero]
  congr 1
  omega
theorem zip_next {xs : List Int} {y : Int × Int} (h : y ∈ (xs.take (xs.length - 1)).zip (xs.drop 1)) : ∃ i : Nat, xs[i]? = some y.1 ∧ xs[i + 1]? = some y.2 := by
  obtain ⟨i, hi⟩ := List.mem_iff_getElem?.mp h
  rw [List.getElem?_zip_eq_some] at hi
  obtain ⟨h1, h2⟩ := hi
  rw [List.getElem?_drop] at h2
  have hl := getElem?_some_of h1
  rw [List.length_take] at hl
  rw [List.getElem?_take_of_lt (by omega)] at h1
  exact ⟨i, h1, by rw [Nat.add_comm]; exact h2⟩
theorem cut_len_le (xs : List Int) (a b : Nat) : (cutL xs (some (a : Int)) (some (b : Int))).length ≤ b - a := by
  unfold cutL
  rw [HT.sIx_nat, HT.sIx_nat, List.length_take, List.length_drop]
  omega
theorem way_of_eq {r : List Int} {rk : Int → Int} (R : Riv r rk) (hn : r.length ≤ 60000) {i : Int} (hi : Pl r i) : m_way_of r i = .ok (wayL r i) := by
  refine Ok.eq ?_
  unfold m_way_of
  rw [ok_bi]
  refine Ok.bi (whileM_ok (Q := fun s => s.2 = wayL r i) (fun k s => Pl r s.1 ∧ s.2 ++ wayL r s.1 = wayL r i ∧ k = (wayL r s.1).length) (k := (wayL r i).length) ⟨hi, rfl, rfl⟩ ?_ ?_) fun s (hs : s.2 = wayL r i) => (show s.2 = wayL r i from hs)
  · have := (way_len R i hi).1
    rw [fuel_eq]
    omega
  · rintro k ⟨a, w⟩ ⟨h1, h2, h3⟩
    show if (!decide (a = -1)) = true then _ else _
    have h1 : Pl r a := h1
    have h2 : w ++ wayL r a = wayL r i := h2
    by_cases e : a = -1
    · subst e
      rw [way_end, List.append_nil] at h2
      rw [if_neg (by decide)]
      exact h2
    · obtain ⟨h0, hl⟩ : 0 ≤ a ∧ a < r.length := by
        rcases h1 with h | h
        · exact absurd h e
        · exact h
      rw [if_pos (by simpa using e)]
      have h3 : k = (wayL r a).length := h3
      rw [way_step R h0 hl] at h2 h3
      rw [List.length_cons] at h3
      refine ⟨(wayL r (gx r a)).length, h3, ?_⟩
      have hw : w.length < 16777216 := by
        have e1 := congrArg List.length h2
        rw [List.length_append] at e1
        have := (way_len R i hi).1
        omega
      show Ok ((appM w a).bi _) _
      rw [app_eq (small_lt hw), ok_bi]
      show Ok ((geti r a).bi _) _
      rw [geti_eq h0 hl, ok_bi]
      exact ⟨R.pl h0 hl, by rw [List.append_assoc]; exact h2, rfl⟩
theorem tops_eq {r : List Int} {rk : Int → Int} (R : Riv r rk) (hn : r.length ≤ 60000) : m_tops_first r = .ok (topsL r) := by
  unfold m_tops_first
  rw [rng1_eq (by omega) (by omega), ok_bi, mapMx_eq (g := keyW r) fun y hy => ?_]
  · rfl
  · have hy := mem_rangeL.mp hy
    rw [way_of_eq R hn (.inr hy)]
    rfl
theorem nat_ok {r s : List Int} {rk : Int → Int} (R : Riv r rk) (hn : r.length ≤ 60000) (hs : s.length = r.length) : Ok (m_natural_of r s) fun N => N.length = r.length ∧ ∀ p : Int, 0 ≤ p → p < r.length → gx N p = gx s p + inS r N (rangeL 0 r.length) p := by
  unfold m_natural_of
  rw [ok_bi, tops_eq R hn, ok_bi]
  refine Ok.bi (foldM_ok (fun i W => W.length = r.length ∧ ∀ p : Int, 0 ≤ p → p < r.length → gx W p = gx s p + inS r W ((topsL r).take i) p) ⟨hs, fun p _ _ => by rw [List.take_zero, inS_nil]; omega⟩ fun i q W hq I => ?_) fun W I => ?_
  · obtain ⟨I1, I2⟩ := I
    obtain ⟨q0, q1⟩ := tops_mem.mp (List.mem_of_getElem? hq)
    rw [geti_eq q0 q1]
    simp only [ok_bi]
    by_cases e : gx r q = -1
    · rw [if_neg (by simpa using e)]
      simp only [ok_bi]
      refine ⟨I1, fun p h0 h1 => ?_⟩
      rw [take_snoc hq, inS_snoc, if_neg (by omega), I2 p h0 h1]
      omega
    · rw [if_pos (by simpa using e)]
      obtain ⟨b0, b1⟩ : 0 ≤ gx r q ∧ gx r q < r.length := by
        rcases R.pl q0 q1 with h | h
        · exact absurd h e
        · exact h
      rw [geti_eq (xs := W) b0 (by omega), geti_eq (xs := W) q0 (by omega)]
      simp only [ok_bi]
      rw [seti_eq b0 (by omega)]
      simp only [ok_bi]
      have hnot := tops_behind R hq e
      have same : ∀ q' ∈ (topsL r).take (i + 1), gx (W.set (gx r q).toNat (gx W (gx r q) + gx W q)) q' = gx W q' := fun q' hq' => by
        obtain ⟨c0, c1⟩ := tops_mem.mp (List.mem_of_mem_take hq')
        rw [gx_set b0 c0 (by omega)]
        exact if_neg fun z => hnot (by rw [← z]; exact hq')
      refine ⟨by rw [List.length_set]; exact I1, fun p h0 h1 => ?_⟩
      rw [inS_congr same, take_snoc hq, inS_snoc, gx_set b0 h0 (by omega)]
      by_cases ep : p = gx r q
      · rw [if_pos ep, if_pos ep.symm, ep, I2 _ b0 b1]
        omega
      · rw [if_neg ep, if_neg fun z => ep z.symm, I2 p h0 h1]
        omega
  · have I1 := I.1
    have I2 := I.2
    refine ⟨I1, fun p h0 h1 => ?_⟩
    rw [I2 p h0 h1, List.take_length, inS_perm (tops_perm r)]
theorem stretch_eq {r : List Int} {rk : Int → Int} (R : Riv r rk) (hn : r.length ≤ 60000) {i j : Int} (hi : Pl r i) (hj : j = -1 ∨ j ∈ wayL r i) : m_stretch_of r i j = .ok (strL r i j) := by
  unfold m_stretch_of
  rw [way_of_eq R hn hi, ok_bi]
  by_cases e : j = -1
  · rw [if_pos (decide_eq_true e), e, str_end R hi]
  · have hm : j ∈ wayL r i := by
      rcases hj with h | h
      · exact absurd h e
      · exact h
    rw [if_neg (by simpa using e), if_neg (by simpa using hm)]
    simp only [ok_bi, bi_bi]
    exact cut_idx hm
theorem stretch_no {r : List Int} {rk : Int → Int} (R : Riv r rk) (hn : r.length ≤ 60000) {i j : Int} (hi : Pl r i) (h1 : j ≠ -1) (h2 : j ∉ wayL r i) : m_stretch_of r i j = .exc (PySem.Str.ofString "NoReach") := by
  unfold m_stretch_of
  rw [way_of_eq R hn hi, ok_bi, if_neg (by simpa using h1), if_pos (by simpa using h2)]
theorem hS_snoc {r : List Int} {p : Int} {zs : List (Lic × Int)} {z : Lic × Int} : hS r p (zs ++ [z]) = hS r p zs + if p ∈ lstr r z.1 then z.2 else 0 := by
  unfold hS
  rw [List.map_append, List.sum_append]
  simp
theorem lstr_nodup {r : List Int} {rk : Int → Int} (R : Riv r rk) {o : Lic} (h : LicOk r o) : (lstr r o).Nodup ∧ ∀ q ∈ lstr r o, 0 ≤ q ∧ q < r.length :=
  ⟨(List.takeWhile_sublist _).nodup (way_nodup R _ (.inr ⟨h.1, h.2.1⟩)), fun q hq => way_mem R _ (.inr ⟨h.1, h.2.1⟩) q (str_sub q hq)⟩
theorem reach_eq {r : List Int} {rk : Int → Int} (R : Riv r rk) (hn : r.length ≤ 60000) {o : Lic} (h : LicOk r o) : m_reaches_of r o = .ok (lstr r o) := by
  unfold m_reaches_of
  exact stretch_eq R hn (.inr ⟨h.1, h.2.1⟩) h.2.2
theorem aug_fold (t : Int) : ∀ {l W : List Int}, l.Nodup → (∀ q ∈ l, 0 ≤ q ∧ q < W.length) → Ok (foldM l W (fun y s => (augi (fun i j => i + j) s y t).bi fun h => Res.ok h)) fun W' => W'.length = W.length ∧ ∀ p : Int, 0 ≤ p → gx W' p = gx W p + if p ∈ l then t else 0
  | [], W, _, _ => ⟨rfl, fun p _ => by rw [if_neg (by simp)]; omega⟩
  | q :: l, W, hn, hl => by
    rw [List.nodup_cons] at hn
    obtain ⟨q0, q1⟩ := hl q (List.mem_cons_self ..)
    show Ok (((augi (fun i j => i + j) W q t).bi _).bi _) _
    rw [augi_eq q0 q1, ok_bi, ok_bi]
    have hset : (W.set q.toNat (gx W q + t)).length = W.length := List.length_set ..
    refine Ok.imp (aug_fold t hn.2 fun y hy => by rw [hset]; exact hl y (List.mem_cons_of_mem _ hy)) fun W' hW => ⟨hW.1.trans hset, fun p h0 => ?_⟩
    rw [hW.2 p h0, gx_set q0 h0 q1]
    by_cases e : p = q
    · subst e
      rw [if_pos rfl, if_neg hn.1, if_pos (List.mem_cons_self ..)]
      omega
    · rw [if_neg e]
      have : (p ∈ q :: l) = (p ∈ l) := by simp [e]
      simp only [this]
theorem mholds_ok {r : List Int} {rk : Int → Int} (R : Riv r rk) (hn : r.length ≤ 60000) {roll : List Lic} {takes : List Int} (hz : ∀ o ∈ roll, LicOk r o) : Ok (m_holds_of r roll takes) fun H => H.length = r.length ∧ ∀ p : Int, 0 ≤ p → p < r.length → gx H p = hS r p (roll.zip takes) := by
  unfold m_holds_of
  rw [rep_eq (by omega) (by omega), ok_bi]
  refine Ok.bi (foldM_ok (fun i (W : List Int) => W.length = r.length ∧ ∀ p : Int, 0 ≤ p → p < r.length → gx W p = hS r p ((roll.zip takes).take i)) ⟨by rw [List.length_replicate]; omega, fun p h0 h1 => gx_rep h0 (by omega)⟩ fun i z W hy I => ?_) fun H I => ?_
  · obtain ⟨I1, I2⟩ := I
    have hm : z.1 ∈ roll := (List.of_mem_zip (List.mem_of_getElem? hy)).1
    have hL := hz z.1 hm
    obtain ⟨n1, n2⟩ := lstr_nodup R hL
    rw [reach_eq R hn hL, ok_bi]
    refine Ok.bi (aug_fold z.2 n1 fun q hq => by rw [I1]; exact n2 q hq) fun W' hW => ⟨hW.1.trans I1, fun p h0 h1 => ?_⟩
    rw [hW.2 p h0, I2 p h0 h1, take_snoc hy, hS_snoc]
  · have I2 := I.2
    rw [List.take_length] at I2
    exact ⟨I.1, I2⟩
/-! ### takers in turn -/
/-- what is held at p -/
def hW (ways : List (List Int)) (t : List Int) (p : Int) : Int := sumR ways.length fun k => if p ∈ gx ways k then gx t k else 0
theorem hW_set {ways : List (List Int)} {t : List Int} (hl : t.length = ways.length) {k v : Int} (k0 : 0 ≤ k) (k1 : k < ways.length) (p : Int) : hW ways (t.set k.toNat v) p = hW ways t p + if p ∈ gx ways k then v - gx t k else 0 := by
  unfold hW
  have e : ∀ j : Int, 0 ≤ j → j < ways.length → (if p ∈ gx ways j then gx (t.set k.toNat v) j else 0) = (if p ∈ gx ways j then gx t j else 0) + (if j = k then (if p ∈ gx ways k then v - gx t k else 0) else 0) := fun j j0 j1 => by
    rw [gx_set k0 j0 (by omega)]
    by_cases ej : j = k
    · rw [if_pos ej, if_pos ej, ej]
      split <;> omega
    · rw [if_neg ej, if_neg ej]
      omega
  rw [sumR_congr e, sumR_add, sumR_one (i := k) k0 k1 fun q _ _ hq => if_neg hq, if_pos rfl]
theorem take_out_ok {W way : List Int} (a : Int) (hn : way.Nodup) (hr : ∀ q ∈ way, 0 ≤ q ∧ q < W.length) : Ok (m_take_out W way a) fun r => r.2.length = W.length ∧ ∀ p : Int, 0 ≤ p → gx r.2 p = gx W p - if p ∈ way then a else 0 := by
  unfold m_take_out
  refine Ok.bi (addG (-a) (fun q t q0 q1 => by rw [augi_eq q0 q1, okb, Int.sub_eq_add_neg]) hn hr) fun W' hW => ⟨hW.1, fun p h0 => ?_⟩
  rw [hW.2 p h0]
  split <;> omega
theorem runs_dry_eq {W : List Int} : ∀ {way : List Int}, (∀ q ∈ way, 0 ≤ q ∧ q < W.length) → m_runs_dry W way = .ok (decide (∃ q ∈ way, gx W q = 0)) := by
  intro way hr
  unfold m_runs_dry
  induction way with
  | nil => rfl
  | cons q l ih =>
    obtain ⟨q0, q1⟩ := hr q (List.mem_cons_self ..)
    show (((geti W q).bi _).bi _) = _
    rw [geti_eq q0 q1, okb, okb, okb]
    by_cases e : gx W q = 0
    · rw [if_pos (decide_eq_true e), decide_eq_true ⟨q, List.mem_cons_self .., e⟩]
    · rw [if_neg (by simpa using e)]
      refine (ih fun y hy => hr y (List.mem_cons_of_mem _ hy)).trans ?_
      congr 1
      rw [decide_eq_decide]
      constructor
      · rintro ⟨y, hy, h⟩
        exact ⟨y, List.mem_cons_of_mem _ hy, h⟩
      · rintro ⟨y, hy, h⟩
        rcases List.mem_cons.mp hy with z | z
        · subst z
          exact absurd h e
        · exact ⟨y, z, h⟩
/-- how many of some ways meet p -/
def cW (ws : List (List Int)) (p : Int) : Int := ((ws.filter fun w => decide (p ∈ w)).length : Int)
theorem cW_snoc {ws : List (List Int)} {w : List Int} {p : Int} : cW (ws ++ [w]) p = cW ws p + if p ∈ w then 1 else 0 := by
  unfold cW
  rw [List.filter_append, List.length_append]
  by_cases h : p ∈ w
  · simp [h]
  · simp [h]
theorem cW_le (ws : List (List Int)) (p : Int) : 0 ≤ cW ws p ∧ cW ws p ≤ ws.length := by
  unfold cW
  have := List.length_filter_le (fun w => decide (p ∈ w)) ws
  omega
theorem through_ok {m : Nat} {ws : List (List Int)} (hm : m ≤ 60000) (hn : ∀ w ∈ ws, w.Nodup) (hr : ∀ w ∈ ws, ∀ q ∈ w, 0 ≤ q ∧ q < (m : Int)) : Ok (m_ways_through (m : Int) ws) fun W => W.length = m ∧ ∀ p : Int, 0 ≤ p → p < m → gx W p = cW ws p := by
  unfold m_ways_through
  rw [rep_eq (by omega) (by omega), okb]
  refine Ok.bi (foldM_ok (fun i (W : List Int) => W.length = m ∧ ∀ p : Int, 0 ≤ p → p < m → gx W p = cW (ws.take i) p) ⟨by rw [List.length_replicate]; omega, fun p h0 h1 => gx_rep h0 (by omega)⟩ fun i w W hy I => ?_) fun W I => ?_
  · have hw := List.mem_of_getElem? hy
    refine Ok.bi (addG 1 (fun q t q0 q1 => by rw [augi_eq q0 q1, okb]) (hn w hw) fun q hq => by rw [I.1]; exact hr w hw q hq) fun W' hW => ⟨hW.1.trans I.1, fun p h0 h1 => ?_⟩
    rw [hW.2 p h0, I.2 p h0 h1, take_snoc hy, cW_snoc]
  · have I2 := I.2
    rw [List.take_length] at I2
    exact ⟨I.1, I2⟩
theorem div_le_iff {a b t : Int} (hb : 0 < b) : t ≤ a / b ↔ t * b ≤ a := Int.le_ediv_iff_mul_le hb
theorem whole_turns_ok {free rests : List Int} {ws : List (List Int)} (hm : free.length ≤ 60000) (hf : ∀ p : Int, 0 ≤ p → p < free.length → 0 ≤ gx free p) (hwl : ws.length ≤ 60000) (hn : ∀ w ∈ ws, w.Nodup) (hr : ∀ w ∈ ws, ∀ q ∈ w, 0 ≤ q ∧ q < (free.length : Int)) (h1 : 0 < rests.length) (h0 : ∀ x ∈ rests, 0 ≤ x) :
    Ok (m_whole_turns free ws rests) fun t => 0 ≤ t ∧ (∀ x ∈ rests, t ≤ x) ∧ (∀ p : Int, 0 ≤ p → p < free.length → t * cW ws p ≤ gx free p) ∧ ((∃ x ∈ rests, x < t + 1) ∨ ∃ p : Int, 0 ≤ p ∧ p < free.length ∧ gx free p < (t + 1) * cW ws p) := by
  unfold m_whole_turns
  refine Ok.bi (P := fun t => t ∈ rests ∧ ∀ x ∈ rests, t ≤ x) ?_ fun t0 ht0 => ?_
  · cases rests with
    | nil => simp at h1
    | cons x l =>
      obtain ⟨a, b, c⟩ := foldl_min_le l x
      refine ⟨?_, fun y hy => ?_⟩
      · rcases c with c | c
        · rw [c]; exact List.mem_cons_self ..
        · exact List.mem_cons_of_mem _ c
      · rcases List.mem_cons.mp hy with z | z
        · rw [z]; exact a
        · exact b y z
  · obtain ⟨T, hT, T1, T2⟩ := (through_ok hm hn hr).ex
    rw [okb, hT, okb, okb]
    refine Ok.bi (foldM_ok (fun i (t : Int) => 0 ≤ t ∧ t ≤ t0 ∧ (∀ p : Int, 0 ≤ p → p < i → p < free.length → t * cW ws p ≤ gx free p) ∧ (t = t0 ∨ ∃ p : Int, 0 ≤ p ∧ p < free.length ∧ gx free p < (t + 1) * cW ws p)) ⟨h0 t0 ht0.1, Int.le_refl _, fun p a b => by omega, .inl rfl⟩ fun i y t hy I => ?_) fun t I => ?_
    · obtain ⟨I1, I2, I3, I4⟩ := I
      rw [List.getElem?_zip_eq_some] at hy
      obtain ⟨y1, y2⟩ := hy
      have l1 := getElem?_some_of y1
      have g1 : gx free (i : Int) = y.1 := gx_nat y1
      have g2 : gx T (i : Int) = y.2 := gx_nat y2
      rw [T2 i (by omega) (by omega)] at g2
      have hc := cW_le ws (i : Int)
      have hfi := hf i (by omega) (by omega)
      by_cases c : 0 < y.2
      · rw [if_pos (decide_eq_true c)]
        have hlog : y.2.natAbs.log2 < 9000 := by
          have : y.2.natAbs < 2 ^ 9000 := Nat.lt_of_lt_of_le (show y.2.natAbs < 2 ^ 17 by omega) (Nat.pow_le_pow_right (by decide) (by decide))
          exact (Nat.log2_lt (by omega)).mpr this
        rw [show divM y.1 y.2 = .ok (y.1 / y.2) from gd_pos ⟨c, hlog⟩]
        simp only [okb]
        have hq : 0 ≤ y.1 / y.2 := Int.ediv_nonneg (by omega) (by omega)
        have hd : ∀ u : Int, u ≤ y.1 / y.2 ↔ u * y.2 ≤ y.1 := fun u => div_le_iff c
        refine ⟨by show 0 ≤ min t (y.1 / y.2); omega, by show min t (y.1 / y.2) ≤ t0; omega, fun p p0 p1 p2 => ?_, ?_⟩
        · show min t (y.1 / y.2) * _ ≤ _
          have hcp := (cW_le ws p).1
          by_cases e : p = (i : Int)
          · subst e
            rw [g1, g2]
            exact (hd _).mp (by omega)
          · exact Int.le_trans (Int.mul_le_mul_of_nonneg_right (by omega) hcp) (I3 p p0 (by omega) p2)
        · by_cases e : t ≤ y.1 / y.2
          · rw [show min t (y.1 / y.2) = t by omega]
            exact I4
          · refine .inr ⟨i, by omega, by omega, ?_⟩
            rw [show min t (y.1 / y.2) = y.1 / y.2 by omega, g1, g2]
            have := hd (y.1 / y.2 + 1)
            omega
      · rw [if_neg (by simpa using c), okb]
        refine ⟨I1, I2, fun p p0 p1 p2 => ?_, I4⟩
        by_cases e : p = (i : Int)
        · subst e
          have : cW ws (i : Int) = 0 := by omega
          rw [this, Int.mul_zero]
          exact hfi
        · exact I3 p p0 (by omega) p2
    · obtain ⟨I1, I2, I3, I4⟩ := I
      rw [List.length_zip, T1, Nat.min_self] at I3
      refine ⟨I1, fun x hx => Int.le_trans I2 (ht0.2 x hx), fun p p0 p1 => I3 p p0 p1 p1, ?_⟩
      rcases I4 with e | e
      · exact .inl ⟨t0, ht0.1, by omega⟩
      · exact .inr e
/-- a taker that gets no more -/
def Done (ways : List (List Int)) (rests left takes : List Int) (k : Int) : Prop := gx takes k = gx rests k ∨ ∃ p ∈ gx ways k, gx left p = 0 ∧ ∀ j : Int, 0 ≤ j → j < ways.length → p ∈ gx ways j → gx takes j ≤ gx takes k + if j < k then 1 else 0
/-- takers and ways that can be dealt with -/
structure TurnsOk (free rests : List Int) (ways : List (List Int)) : Prop where
  hm : free.length ≤ 60000
  hf : ∀ p : Int, 0 ≤ p → p < free.length → 0 ≤ gx free p
  hw : ways.length ≤ 60000
  hr : rests.length = ways.length
  h0 : ∀ k : Int, 0 ≤ k → k < ways.length → 0 ≤ gx rests k
  nd : ∀ k : Int, 0 ≤ k → k < ways.length → (gx ways k).Nodup
  rg : ∀ k : Int, 0 ≤ k → k < ways.length → ∀ q ∈ gx ways k, 0 ≤ q ∧ q < (free.length : Int)
/-- on the way of the dealing -/
structure TurnsIn (free rests : List Int) (ways : List (List Int)) (left takes : List Int) : Prop where
  ll : left.length = free.length
  tl : takes.length = ways.length
  lf : ∀ p : Int, 0 ≤ p → p < free.length → gx left p = gx free p - hW ways takes p ∧ 0 ≤ gx left p
  tb : ∀ k : Int, 0 ≤ k → k < ways.length → 0 ≤ gx takes k ∧ gx takes k ≤ gx rests k
/-- one taker takes so much -/
theorem takes_ok {free rests : List Int} {ways : List (List Int)} {left takes : List Int} (S : TurnsOk free rests ways) (I : TurnsIn free rests ways left takes) {k a : Int} (k0 : 0 ≤ k) (k1 : k < ways.length) (a0 : 0 ≤ a) (ha : gx takes k + a ≤ gx rests k) (hl : ∀ p ∈ gx ways k, a ≤ gx left p) :
    Ok (m_take_out left (gx ways k) a) fun r => TurnsIn free rests ways r.2 (takes.set k.toNat (gx takes k + a)) ∧ ∀ p : Int, 0 ≤ p → gx r.2 p = gx left p - if p ∈ gx ways k then a else 0 := by
  refine Ok.imp (take_out_ok a (S.nd k k0 k1) fun q hq => by rw [I.ll]; exact S.rg k k0 k1 q hq) fun r hr => ⟨⟨hr.1.trans I.ll, (List.length_set ..).trans I.tl, fun p p0 p1 => ?_, fun j j0 j1 => ?_⟩, hr.2⟩
  · obtain ⟨e1, e2⟩ := I.lf p p0 p1
    rw [hr.2 p p0, hW_set I.tl k0 k1, e1]
    by_cases hp : p ∈ gx ways k
    · rw [if_pos hp, if_pos hp]
      have := hl p hp
      omega
    · rw [if_neg hp, if_neg hp]
      omega
  · have := I.tb j j0 j1
    rw [gx_set k0 j0 (by rw [I.tl]; exact k1)]
    split
    · have := I.tb k k0 k1
      rename_i e
      subst e
      omega
    · exact this
theorem one_turn_ok {free rests : List Int} {ways : List (List Int)} {left takes going : List Int} (S : TurnsOk free rests ways) (I : TurnsIn free rests ways left takes) (hg : going.Pairwise (· < ·)) (hgr : ∀ k ∈ going, 0 ≤ k ∧ k < (ways.length : Int)) (hgl : going.length ≤ 60000) (T : Int) (hT : ∀ k ∈ going, gx takes k = T)
    (hD : ∀ k : Int, 0 ≤ k → k < ways.length → k ∉ going → gx takes k ≤ T ∧ Done ways rests left takes k) :
    Ok (m_one_turn left ways rests takes going) fun r => TurnsIn free rests ways r.2.1 r.2.2 ∧ r.1.Sublist going ∧ (∀ k ∈ r.1, gx r.2.2 k = T + 1) ∧ (∀ k : Int, 0 ≤ k → k < ways.length → k ∉ r.1 → gx r.2.2 k ≤ T ∧ Done ways rests r.2.1 r.2.2 k) ∧ ∀ p : Int, 0 ≤ p → gx r.2.1 p = gx left p - cW (r.1.map (gx ways)) p := by
  unfold m_one_turn
  rw [okb]
  refine loopC_ok (fun i (s : List Int × List Int × List Int) => TurnsIn free rests ways s.1 s.2.1 ∧ s.2.2.Sublist (going.take i) ∧ (∀ k ∈ s.2.2, gx s.2.1 k = T + 1) ∧ (∀ k ∈ going.drop i, gx s.2.1 k = T) ∧ (∀ k : Int, 0 ≤ k → k < ways.length → k ∉ s.2.2 → k ∉ going.drop i → gx s.2.1 k ≤ T ∧ Done ways rests s.1 s.2.1 k) ∧ ∀ p : Int, 0 ≤ p → gx s.1 p = gx left p - cW (s.2.2.map (gx ways)) p)
    ⟨I, List.nil_sublist _, (fun k hk => nomatch hk), hT, (fun k k0 k1 _ h => hD k k0 k1 h), fun p _ => (by show gx left p = gx left p - (0 : Int); omega)⟩ (fun i k s next hy J hnx => ?_) fun s J => ?_
  · obtain ⟨L, t, o⟩ := s
    obtain ⟨J1, J2, J3, J4, J5, J6⟩ := J
    have J1 : TurnsIn free rests ways L t := J1
    have J2 : o.Sublist (going.take i) := J2
    have hil := getElem?_some_of hy
    have hkm := List.mem_of_getElem? hy
    obtain ⟨k0, k1⟩ := hgr k hkm
    have hdrop : going.drop i = k :: going.drop (i + 1) := by
      rw [List.drop_eq_getElem_cons hil]
      congr 1
      rw [List.getElem?_eq_getElem hil] at hy
      exact Option.some.inj hy
    have htk : gx t k = T := J4 k (by rw [hdrop]; exact List.mem_cons_self ..)
    have hlt : ∀ j ∈ o, j < k := fun j hj => by
      have hj := J2.subset hj
      obtain ⟨a, ha⟩ := List.mem_iff_getElem?.mp hj
      have hal := getElem?_some_of ha
      rw [List.length_take] at hal
      rw [List.getElem?_take_of_lt (by omega)] at ha
      have hal2 := getElem?_some_of ha
      have := (List.pairwise_iff_getElem.mp hg) a i hal2 hil (by omega)
      rw [List.getElem?_eq_getElem hal2] at ha
      rw [List.getElem?_eq_getElem hil] at hy
      rw [Option.some.inj ha, Option.some.inj hy] at this
      exact this
    have htake : going.take (i + 1) = going.take i ++ [k] := take_snoc hy
    have hknd : k ∉ going.drop (i + 1) := fun z => by
      obtain ⟨a, ha⟩ := List.mem_iff_getElem?.mp z
      rw [List.getElem?_drop] at ha
      have hal2 := getElem?_some_of ha
      have := (List.pairwise_iff_getElem.mp hg) i _ hil hal2 (by omega)
      rw [List.getElem?_eq_getElem hal2] at ha
      rw [List.getElem?_eq_getElem hil] at hy
      rw [Option.some.inj ha, Option.some.inj hy] at this
      omega
    have stay : Done ways rests L t k → Ok (next (L, t, o)) _ := fun hdone => hnx (L, t, o) ⟨J1, by show o.Sublist (going.take (i + 1)); rw [htake]; exact J2.trans (List.sublist_append_left _ _), J3, fun j hj => J4 j (by rw [hdrop]; exact List.mem_cons_of_mem _ hj), fun j j0 j1 jo jd => by
      by_cases e : j = k
      · rw [e]
        exact ⟨by show gx t k ≤ T; omega, hdone⟩
      · exact J5 j j0 j1 jo (by rw [hdrop, List.mem_cons, not_or]; exact ⟨e, jd⟩), J6⟩
    show Ok ((((geti t k).bi _).bi _).bi _) _
    rw [geti_eq k0 (by rw [J1.tl]; exact k1), okb, geti_eq (xs := rests) k0 (by rw [S.hr]; exact k1), okb, okb]
    by_cases c1 : gx t k = gx rests k
    · rw [if_pos (decide_eq_true c1), okb, if_pos rfl]
      exact stay (.inl c1)
    · rw [if_neg (by simpa using c1), okb, geti_eq (xs := ways) k0 k1, okb, okb, okb]
      show Ok ((m_runs_dry L (gx ways k)).bi _) _
      rw [okb]
      rw [runs_dry_eq fun q hq => by rw [J1.ll]; exact S.rg k k0 k1 q hq, okb]
      by_cases c2 : ∃ q ∈ gx ways k, gx L q = 0
      · rw [if_pos (decide_eq_true c2)]
        obtain ⟨q, hq, hq0⟩ := c2
        refine stay (.inr ⟨q, hq, hq0, fun j j0 j1 hqj => ?_⟩)
        rw [htk]
        by_cases jo : j ∈ o
        · have := hlt j jo
          have h2 : gx t j = T + 1 := J3 j jo
          rw [if_pos this]
          omega
        · by_cases jd : j ∈ going.drop i
          · have h2 : gx t j = T := J4 j jd
            split <;> omega
          · have h2 : gx t j ≤ T := (J5 j j0 j1 jo jd).1
            split <;> omega
      · rw [if_neg (by simpa using c2)]
        have hrest : gx t k + 1 ≤ gx rests k := by
          have := (J1.tb k k0 k1).2
          omega
        have hdry : ∀ p ∈ gx ways k, 1 ≤ gx L p := fun p hp => by
          have hr := S.rg k k0 k1 p hp
          have := (J1.lf p hr.1 hr.2).2
          by_cases e : gx L p = 0
          · exact absurd ⟨p, hp, e⟩ c2
          · omega
        rw [okb, okb, okb]
        refine Ok.bi (takes_ok (a := 1) S J1 k0 k1 (by decide) hrest hdry) fun r hr => ?_
        obtain ⟨r1, r2⟩ := hr
        show Ok ((augi (fun i j => i + j) t k 1).bi _) _
        rw [augi_eq k0 (by rw [J1.tl]; exact k1), okb]
        have hol : o.length ≤ 60000 := Nat.le_trans J2.length_le (by rw [List.length_take]; omega)
        show Ok ((appM o k).bi _) _
        rw [app_eq (small_lt (by omega)), okb]
        have gs : ∀ j : Int, 0 ≤ j → gx (t.set k.toNat (gx t k + 1)) j = if j = k then T + 1 else gx t j := fun j j0 => by
          rw [gx_set k0 j0 (by rw [J1.tl]; exact k1), htk]
        refine hnx _ ⟨r1, ?_, fun j hj => ?_, fun j hj => ?_, fun j j0 j1 jo jd => ?_, fun p p0 => ?_⟩
        · show (o ++ [k]).Sublist (going.take (i + 1))
          rw [htake]
          exact J2.append (List.Sublist.refl _)
        · show gx (t.set k.toNat (gx t k + 1)) j = T + 1
          have hj : j ∈ o ++ [k] := hj
          rcases List.mem_append.mp hj with h | h
          · rw [gs j (hgr j (List.mem_of_mem_take (J2.subset h))).1, if_neg (by have := hlt j h; omega)]
            exact J3 j h
          · rw [List.mem_singleton.mp h, gs k k0, if_pos rfl]
        · show gx (t.set k.toNat (gx t k + 1)) j = T
          rw [gs j (hgr j (List.mem_of_mem_drop hj)).1, if_neg (fun e => hknd (by rw [← e]; exact hj))]
          exact J4 j (by rw [hdrop]; exact List.mem_cons_of_mem _ hj)
        · have jo : j ∉ o ++ [k] := jo
          rw [List.mem_append, not_or, List.mem_singleton] at jo
          have h5 := J5 j j0 j1 jo.1 (by rw [hdrop, List.mem_cons, not_or]; exact ⟨jo.2, jd⟩)
          have e1 := gs j j0
          rw [if_neg jo.2] at e1
          refine ⟨by show gx (t.set k.toNat (gx t k + 1)) j ≤ T; rw [e1]; exact h5.1, ?_⟩
          show Done ways rests r.2 (t.set k.toNat (gx t k + 1)) j
          unfold Done
          rw [e1]
          rcases h5.2 with h | ⟨p, hp, hp0, hj⟩
          · exact .inl h
          · have hpr := S.rg j j0 j1 p hp
            have hpk : p ∉ gx ways k := fun z => by
              have := hdry p z
              have hp0 : gx L p = 0 := hp0
              omega
            refine .inr ⟨p, hp, by rw [r2 p hpr.1, if_neg hpk]; have hp0 : gx L p = 0 := hp0; omega, fun j' j0' j1' hpj => ?_⟩
            rw [gs j' j0', if_neg (fun e => hpk (by rw [← e]; exact hpj))]
            exact hj j' j0' j1' hpj
        · show gx r.2 p = gx left p - cW ((o ++ [k]).map (gx ways)) p
          have h6 : gx L p = gx left p - cW (o.map (gx ways)) p := J6 p p0
          rw [r2 p p0, h6, List.map_append, List.map_cons, List.map_nil, cW_snoc]
          omega
  · obtain ⟨L, t, o⟩ := s
    obtain ⟨J1, J2, J3, J4, J5, J6⟩ := J
    have J2 : o.Sublist (going.take going.length) := J2
    rw [List.take_length] at J2
    exact ⟨J1, J2, J3, fun k k0 k1 ko => J5 k k0 k1 ko (by rw [List.drop_length]; exact List.not_mem_nil), J6⟩
theorem deal_turns_ok {free rests : List Int} {ways : List (List Int)} (S : TurnsOk free rests ways) : Ok (m_deal_turns free ways rests) fun r => TurnsIn free rests ways r.2 r.1 ∧ ∀ k : Int, 0 ≤ k → k < ways.length → Done ways rests r.2 r.1 k := by
  unfold m_deal_turns
  have hwl := S.hw
  rw [okb, rep_eq (by omega) (by omega), okb, rng1_eq (by omega) (by omega), okb, Int.toNat_natCast]
  refine Ok.bi (whileM_ok (Q := fun (s : List Int × List Int × List Int) => TurnsIn free rests ways s.1 s.2.1 ∧ ∀ k : Int, 0 ≤ k → k < ways.length → Done ways rests s.1 s.2.1 k) (fun n (s : List Int × List Int × List Int) => s.2.2.length ≤ n ∧ TurnsIn free rests ways s.1 s.2.1 ∧ s.2.2.Pairwise (· < ·) ∧ (∀ k ∈ s.2.2, 0 ≤ k ∧ k < (ways.length : Int)) ∧ s.2.2.length ≤ ways.length ∧
    ∃ T : Int, (∀ k ∈ s.2.2, gx s.2.1 k = T) ∧ ∀ k : Int, 0 ≤ k → k < ways.length → k ∉ s.2.2 → gx s.2.1 k ≤ T ∧ Done ways rests s.1 s.2.1 k) (k := ways.length) ⟨?_, ⟨rfl, List.length_replicate .., fun p p0 p1 => ?_, fun k k0 k1 => ?_⟩, ?_, fun k hk => ?_, ?_, 0, fun k hk => ?_, fun k k0 k1 hk => ?_⟩ ?_ ?_) fun s hs => ?_
  · show (rangeL 0 ways.length).length ≤ _
    rw [rangeL_length]; omega
  · have hz : hW ways (List.replicate ways.length 0) p = 0 := sumR_zero fun k k0 k1 => by
      rw [gx_rep k0 k1]
      split <;> rfl
    rw [hz]
    exact ⟨by show gx free p = gx free p - 0; omega, S.hf p p0 p1⟩
  · show 0 ≤ gx (List.replicate ways.length 0) k ∧ _
    rw [gx_rep k0 k1]
    exact ⟨Int.le_refl _, S.h0 k k0 k1⟩
  · show (rangeL 0 ways.length).Pairwise (· < ·)
    unfold rangeL
    rw [List.pairwise_map]
    exact List.pairwise_lt_range.imp fun h => by omega
  · exact mem_rangeL.mp hk
  · show (rangeL 0 ways.length).length ≤ _
    rw [rangeL_length]; omega
  · have := mem_rangeL.mp hk
    exact gx_rep this.1 this.2
  · exact absurd (mem_rangeL.mpr ⟨k0, k1⟩) hk
  · rw [fuel_eq]; omega
  · rintro n ⟨left, takes, going⟩ ⟨h1, h2, h3, h4, h4', T, h5, h6⟩
    have h1 : going.length ≤ n := h1
    have h2 : TurnsIn free rests ways left takes := h2
    have h4' : going.length ≤ ways.length := h4'
    show if (decide ((0 : Int) < (going.length : Int))) = true then _ else _
    by_cases c : (0 : Int) < (going.length : Int)
    · rw [if_pos (decide_eq_true c)]
      have wmap : mapMx going (fun (y6 : Int) => (geti rests y6).bi fun u7 => (geti takes y6).bi fun u8 => Res.ok (u7 - u8)) = .ok (going.map fun k => gx rests k - gx takes k) := mapMx_eq fun k hk => by
        obtain ⟨k0, k1⟩ := h4 k hk
        rw [geti_eq k0 (by rw [S.hr]; exact k1), okb, geti_eq k0 (by rw [h2.tl]; exact k1), okb]
      have ymap : mapMx going (fun (y10 : Int) => geti ways y10) = .ok (going.map (gx ways)) := mapMx_eq fun k hk => by
        obtain ⟨k0, k1⟩ := h4 k hk
        exact geti_eq k0 k1
      have wm : ∀ w ∈ going.map (gx ways), w.Nodup ∧ ∀ q ∈ w, 0 ≤ q ∧ q < (left.length : Int) := fun w hw => by
        obtain ⟨k, hk, rfl⟩ := List.mem_map.mp hw
        obtain ⟨k0, k1⟩ := h4 k hk
        exact ⟨S.nd k k0 k1, by rw [h2.ll]; exact S.rg k k0 k1⟩
      have hwt := whole_turns_ok (free := left) (rests := going.map fun k => gx rests k - gx takes k) (ws := going.map (gx ways)) (by rw [h2.ll]; exact S.hm) (fun p p0 p1 => (h2.lf p p0 (by rw [h2.ll] at p1; exact p1)).2) (by rw [List.length_map]; omega) (fun w hw => (wm w hw).1) (fun w hw => (wm w hw).2) (by rw [List.length_map]; omega) (fun x hx => by
        obtain ⟨k, hk, rfl⟩ := List.mem_map.mp hx
        obtain ⟨k0, k1⟩ := h4 k hk
        have := (h2.tb k k0 k1).2
        omega)
      obtain ⟨u, hu, u0, u1, u2, u3⟩ := hwt.ex
      have hwant : ∀ k ∈ going, T + u ≤ gx rests k := fun k hk => by
        have h7 : gx takes k = T := h5 k hk
        have := u1 _ (List.mem_map.mpr ⟨k, hk, rfl⟩)
        omega
      have hcnt : ∀ p : Int, 0 ≤ cW (going.map (gx ways)) p := fun p => (cW_le _ _).1
      refine ⟨n - 1, by omega, ?_⟩
      show Ok ((mapMx going fun (y6 : Int) => (geti rests y6).bi fun u7 => (geti takes y6).bi fun u8 => Res.ok (u7 - u8)).bi _) _
      rw [wmap, okb, okb]
      show Ok ((((((mapMx going fun (y10 : Int) => geti ways y10).bi _).bi _).bi _).bi _)) _
      rw [ymap, okb, okb, okb, okb]
      show Ok ((m_whole_turns left (going.map (gx ways)) (going.map fun k => gx rests k - gx takes k)).bi _) _
      rw [hu, okb]
      refine Ok.bi (foldM_ok (fun i (s : List Int × List Int) => TurnsIn free rests ways s.1 s.2 ∧ (∀ k ∈ going.take i, gx s.2 k = T + u) ∧ (∀ k ∈ going.drop i, gx s.2 k = T) ∧ (∀ k : Int, 0 ≤ k → k < ways.length → k ∉ going → gx s.2 k = gx takes k) ∧ ∀ p : Int, 0 ≤ p → gx s.1 p = gx left p - u * cW ((going.take i).map (gx ways)) p) ⟨h2, fun k hk => by simp at hk, h5, fun _ _ _ _ => rfl, fun p _ => by show gx left p = gx left p - u * (0 : Int); rw [Int.mul_zero]; omega⟩ fun i k s hy J => ?_) fun s J => ?_
      · obtain ⟨L, t⟩ := s
        obtain ⟨J1, J2, J3, J4, J5⟩ := J
        have J1 : TurnsIn free rests ways L t := J1
        have hil := getElem?_some_of hy
        have hkm := List.mem_of_getElem? hy
        obtain ⟨k0, k1⟩ := h4 k hkm
        have hdrop : going.drop i = k :: going.drop (i + 1) := by
          rw [List.drop_eq_getElem_cons hil]
          congr 1
          rw [List.getElem?_eq_getElem hil] at hy
          exact Option.some.inj hy
        have htk : gx t k = T := J3 k (by rw [hdrop]; exact List.mem_cons_self ..)
        have htake : going.take (i + 1) = going.take i ++ [k] := take_snoc hy
        have hknd : k ∉ going.drop (i + 1) := fun z => by
          obtain ⟨a, ha⟩ := List.mem_iff_getElem?.mp z
          rw [List.getElem?_drop] at ha
          have hal2 := getElem?_some_of ha
          have := (List.pairwise_iff_getElem.mp h3) i _ hil hal2 (by omega)
          rw [List.getElem?_eq_getElem hal2] at ha
          rw [List.getElem?_eq_getElem hil] at hy
          rw [Option.some.inj ha, Option.some.inj hy] at this
          omega
        have hknt : k ∉ going.take i := fun z => by
          obtain ⟨a, ha⟩ := List.mem_iff_getElem?.mp z
          have hal := getElem?_some_of ha
          rw [List.length_take] at hal
          rw [List.getElem?_take_of_lt (by omega)] at ha
          have hal2 := getElem?_some_of ha
          have := (List.pairwise_iff_getElem.mp h3) a i hal2 hil (by omega)
          rw [List.getElem?_eq_getElem hal2] at ha
          rw [List.getElem?_eq_getElem hil] at hy
          rw [Option.some.inj ha, Option.some.inj hy] at this
          omega
        have cmono : ∀ p : Int, cW ((going.take i).map (gx ways)) p + (if p ∈ gx ways k then 1 else 0) ≤ cW (going.map (gx ways)) p := fun p => by
          have e : going = going.take i ++ (k :: going.drop (i + 1)) := by rw [← hdrop, List.take_append_drop]
          have e2 : cW (going.map (gx ways)) p = cW ((going.take i).map (gx ways)) p + (cW ((k :: going.drop (i + 1)).map (gx ways)) p) := by
            conv => lhs; rw [e]
            unfold cW
            rw [List.map_append, List.filter_append, List.length_append]
            omega
          rw [e2]
          have e3 : (if p ∈ gx ways k then (1 : Int) else 0) ≤ cW ((k :: going.drop (i + 1)).map (gx ways)) p := by
            unfold cW
            rw [List.map_cons, List.filter_cons]
            by_cases hp : p ∈ gx ways k
            · rw [if_pos hp, if_pos (decide_eq_true hp), List.length_cons]
              omega
            · rw [if_neg hp]
              omega
          omega
        show Ok ((((((geti ways k).bi _).bi _).bi _).bi _)) _
        rw [geti_eq k0 k1, okb, okb, okb, okb]
        have hlft : ∀ p ∈ gx ways k, u ≤ gx L p := fun p hp => by
          have hpr := S.rg k k0 k1 p hp
          have e5 : gx L p = gx left p - u * cW ((going.take i).map (gx ways)) p := J5 p hpr.1
          have e6 := cmono p
          rw [if_pos hp] at e6
          have e7 := u2 p hpr.1 (by rw [h2.ll]; exact hpr.2)
          have e8 : u * (cW ((going.take i).map (gx ways)) p + 1) ≤ u * cW (going.map (gx ways)) p := Int.mul_le_mul_of_nonneg_left e6 u0
          rw [Int.mul_add, Int.mul_one] at e8
          omega
        refine Ok.bi (takes_ok (a := u) S J1 k0 k1 u0 (by rw [htk]; exact hwant k hkm) hlft) fun r hr => ?_
        obtain ⟨r1, r2⟩ := hr
        show Ok ((augi (fun i j => i + j) t k u).bi _) _
        rw [augi_eq k0 (by rw [J1.tl]; exact k1), okb]
        have gs : ∀ j : Int, 0 ≤ j → gx (t.set k.toNat (gx t k + u)) j = if j = k then T + u else gx t j := fun j j0 => by
          rw [gx_set k0 j0 (by rw [J1.tl]; exact k1), htk]
        refine ⟨r1, fun j hj => ?_, fun j hj => ?_, fun j j0 j1 jg => ?_, fun p p0 => ?_⟩
        · show gx (t.set k.toNat (gx t k + u)) j = T + u
          rw [htake] at hj
          rcases List.mem_append.mp hj with h | h
          · rw [gs j (h4 j (List.mem_of_mem_take h)).1, if_neg (fun e => hknt (by rw [← e]; exact h))]
            exact J2 j h
          · rw [List.mem_singleton.mp h, gs k k0, if_pos rfl]
        · show gx (t.set k.toNat (gx t k + u)) j = T
          rw [gs j (h4 j (List.mem_of_mem_drop hj)).1, if_neg (fun e => hknd (by rw [← e]; exact hj))]
          exact J3 j (by rw [hdrop]; exact List.mem_cons_of_mem _ hj)
        · show gx (t.set k.toNat (gx t k + u)) j = gx takes j
          rw [gs j j0, if_neg (fun e => jg (by rw [e]; exact hkm))]
          exact J4 j j0 j1 jg
        · show gx r.2 p = gx left p - u * cW ((going.take (i + 1)).map (gx ways)) p
          have e5 : gx L p = gx left p - u * cW ((going.take i).map (gx ways)) p := J5 p p0
          rw [r2 p p0, e5, htake, List.map_append, List.map_cons, List.map_nil, cW_snoc]
          by_cases hp : p ∈ gx ways k
          · rw [if_pos hp, if_pos hp, Int.mul_add, Int.mul_one]
            omega
          · rw [if_neg hp, if_neg hp, Int.add_zero]
            omega
      · obtain ⟨L, t⟩ := s
        obtain ⟨J1, J2, J3, J4, J5⟩ := J
        have J1 : TurnsIn free rests ways L t := J1
        rw [List.take_length] at J2
        rw [List.take_length] at J5
        have hD' : ∀ k : Int, 0 ≤ k → k < ways.length → k ∉ going → gx t k ≤ T + u ∧ Done ways rests L t k := fun k k0 k1 kg => by
          obtain ⟨a, b⟩ := h6 k k0 k1 kg
          have a : gx takes k ≤ T := a
          have e4 : gx t k = gx takes k := J4 k k0 k1 kg
          refine ⟨by rw [e4]; omega, ?_⟩
          unfold Done
          rw [e4]
          rcases b with h | ⟨p, hp, hp0, hj⟩
          · exact .inl h
          · have hp0 : gx left p = 0 := hp0
            have hpr := S.rg k k0 k1 p hp
            have e7 := u2 p hpr.1 (by rw [h2.ll]; exact hpr.2)
            have e8 : 0 ≤ u * cW (going.map (gx ways)) p := Int.mul_nonneg u0 (hcnt p)
            have e5 : gx L p = gx left p - u * cW (going.map (gx ways)) p := J5 p hpr.1
            refine .inr ⟨p, hp, by omega, fun j j0 j1 hpj => ?_⟩
            by_cases jg : j ∈ going
            · have hc : 1 ≤ cW (going.map (gx ways)) p := by
                unfold cW
                have : 0 < ((going.map (gx ways)).filter fun w => decide (p ∈ w)).length := List.length_pos_of_mem (List.mem_filter.mpr ⟨List.mem_map.mpr ⟨j, jg, rfl⟩, decide_eq_true hpj⟩)
                omega
              have hu0 : u = 0 := by
                have : u * 1 ≤ u * cW (going.map (gx ways)) p := Int.mul_le_mul_of_nonneg_left hc u0
                omega
              have h7 : gx t j = T + u := J2 j jg
              have h8 : gx takes j = T := h5 j jg
              have hj' : gx takes j ≤ gx takes k + if j < k then 1 else 0 := hj j j0 j1 hpj
              omega
            · have h7 : gx t j = gx takes j := J4 j j0 j1 jg
              rw [h7]
              exact hj j j0 j1 hpj
        refine Ok.bi (one_turn_ok S J1 h3 h4 (by omega) (T + u) J2 hD') fun r hr => ?_
        obtain ⟨R1, R2, R3, R4, R5⟩ := hr
        have hlen : r.1.length < going.length := by
          have hle : r.1.length ≤ going.length := R2.length_le
          by_cases e : r.1.length = going.length
          · exfalso
            have eg : r.1 = going := R2.eq_of_length e
            rcases u3 with ⟨x, hx, hxu⟩ | ⟨p, p0, p1, hp⟩
            · obtain ⟨k, hk, rfl⟩ := List.mem_map.mp hx
              obtain ⟨k0, k1⟩ := h4 k hk
              have h7 := R3 k (by rw [eg]; exact hk)
              have h8 := (R1.tb k k0 k1).2
              have h9 : gx takes k = T := h5 k hk
              have hxu : gx rests k - gx takes k < u + 1 := hxu
              omega
            · rw [h2.ll] at p1
              have h7 := R5 p p0
              have h8 := (R1.lf p p0 p1).2
              have h9 : gx L p = gx left p - u * cW (going.map (gx ways)) p := J5 p p0
              rw [eg] at h7
              rw [Int.add_mul, Int.one_mul] at hp
              omega
          · omega
        exact ⟨by show r.1.length ≤ n - 1; omega, R1, List.Pairwise.sublist R2 h3, fun k hk => h4 k (R2.subset hk), by show r.1.length ≤ _; omega, T + u + 1, R3, fun k k0 k1 hk => ⟨by have := (R4 k k0 k1 hk).1; show gx r.2.2 k ≤ _; omega, (R4 k k0 k1 hk).2⟩⟩
    · rw [if_neg (by simpa using c)]
      refine ⟨h2, fun k k0 k1 => ?_⟩
      have hg : going = [] := List.eq_nil_of_length_eq_zero (by omega)
      exact (h6 k k0 k1 (by show k ∉ going; rw [hg]; exact List.not_mem_nil)).2
  · exact hs
theorem ranked_eq (roll : List Lic) : m_ranked roll = .ok (rankedL roll) := by
  unfold m_ranked
  rw [okb]
  rfl
theorem groups_ok {roll : List Lic} (hl : roll.length ≤ 60000) (hd : ∀ k : Int, 0 ≤ k → k < roll.length → 0 ≤ dayOf roll k) : Ok (m_groups_of roll) (GroupsOk roll) := by
  unfold m_groups_of
  rw [okb, ranked_eq, okb]
  have hlen : (rankedL roll).length = roll.length := by rw [(ranked_perm roll).length_eq, rangeL_length]; omega
  refine Ok.bi (foldM_ok (fun i (s : List (List Int) × Int) => s.1.flatten = (rankedL roll).take i ∧ s.1.length ≤ i ∧ (∀ g ∈ s.1, g ≠ []) ∧ (∀ g ∈ s.1, ∀ a ∈ g, ∀ b ∈ g, dayOf roll a = dayOf roll b) ∧ (s.1.Pairwise fun g g' => ∀ a ∈ g, ∀ b ∈ g', dayOf roll a < dayOf roll b) ∧
    ((s.1 = [] ∧ s.2 = -1) ∨ ∃ gs g, s.1 = gs ++ [g] ∧ g ≠ [] ∧ ∀ a ∈ g, dayOf roll a = s.2)) ⟨rfl, Nat.le_refl _, (fun g h => nomatch h), (fun g h => nomatch h), List.Pairwise.nil, .inl ⟨rfl, rfl⟩⟩ fun i y s hy I => ?_) fun s I => ?_
  · obtain ⟨gs, last⟩ := s
    obtain ⟨I1, I1b, I2, I3, I4, I5⟩ := I
    have I1 : gs.flatten = (rankedL roll).take i := I1
    have I1b : gs.length ≤ i := I1b
    have hil := getElem?_some_of hy
    have hym := List.mem_of_getElem? hy
    obtain ⟨y0, y1⟩ := ranked_mem.mp hym
    have hdy := hd y y0 y1
    have htake : (rankedL roll).take (i + 1) = gs.flatten ++ [y] := by rw [I1]; exact take_snoc hy
    have hbefore : ∀ a ∈ gs.flatten, dayOf roll a < dayOf roll y ∨ (dayOf roll a = dayOf roll y ∧ a < y) := fun a ha => by
      rw [I1] at ha
      obtain ⟨j, hj⟩ := List.mem_iff_getElem?.mp ha
      have hjl := getElem?_some_of hj
      rw [List.length_take] at hjl
      rw [List.getElem?_take_of_lt (by omega)] at hj
      have hjl2 := getElem?_some_of hj
      have := (List.pairwise_iff_getElem.mp (ranked_sorted roll)) j i hjl2 hil (by omega)
      rw [List.getElem?_eq_getElem hjl2] at hj
      rw [List.getElem?_eq_getElem hil] at hy
      rw [Option.some.inj hj, Option.some.inj hy] at this
      exact this
    have hgeti : geti roll y = .ok (gx roll y) := geti_eq y0 y1
    -- what comes behind the branch
    have fin : ∀ (hs : List (List Int)) (g : List Int) (d : Int), d = dayOf roll y → hs.flatten ++ g = gs.flatten → hs.length ≤ i → g.length ≤ i → (∀ h ∈ hs, h ≠ []) → (∀ h ∈ hs, ∀ a ∈ h, ∀ b ∈ h, dayOf roll a = dayOf roll b) → (∀ a ∈ g, dayOf roll a = dayOf roll y) → (hs.Pairwise fun g g' => ∀ a ∈ g, ∀ b ∈ g', dayOf roll a < dayOf roll b) → (∀ h ∈ hs, ∀ a ∈ h, dayOf roll a < dayOf roll y) →
        Ok ((Res.ok (-(1 : Int))).bi fun u16 => (geti (hs ++ [g]) u16).bi fun u17 => (Res.ok y).bi fun u18 => (appM u17 u18).bi fun u19 => (seti (hs ++ [g]) u16 u19).bi fun (groups_15 : List (List Int)) => Res.ok ((groups_15, d))) fun (s : List (List Int) × Int) => s.1.flatten = (rankedL roll).take (i + 1) ∧ s.1.length ≤ i + 1 ∧ (∀ g ∈ s.1, g ≠ []) ∧ (∀ g ∈ s.1, ∀ a ∈ g, ∀ b ∈ g, dayOf roll a = dayOf roll b) ∧ (s.1.Pairwise fun g g' => ∀ a ∈ g, ∀ b ∈ g', dayOf roll a < dayOf roll b) ∧
          ((s.1 = [] ∧ s.2 = -1) ∨ ∃ gs g, s.1 = gs ++ [g] ∧ g ≠ [] ∧ ∀ a ∈ g, dayOf roll a = s.2) := fun hs g d hdd e1 e2 e2b e3 e4 e5 e6 e7 => by
      rw [okb, geti_last, okb, okb, app_eq (small_lt (by omega)), okb, seti_last, okb]
      have hg' : ∀ a ∈ g ++ [y], dayOf roll a = dayOf roll y := fun a ha => by
        rcases List.mem_append.mp ha with h | h
        · exact e5 a h
        · rw [List.mem_singleton.mp h]
      refine ⟨?_, ?_, fun h hh => ?_, fun h hh a ha b hb => ?_, ?_, .inr ⟨hs, g ++ [y], rfl, by simp, fun a ha => by rw [hdd]; exact hg' a ha⟩⟩
      · rw [htake, ← e1, List.flatten_append, List.flatten_cons, List.flatten_nil, List.append_nil, List.append_assoc]
      · show (hs ++ [g ++ [y]]).length ≤ i + 1
        rw [List.length_append, List.length_singleton]
        omega
      · rcases List.mem_append.mp hh with z | z
        · exact e3 h z
        · rw [List.mem_singleton.mp z]; simp
      · rcases List.mem_append.mp hh with z | z
        · exact e4 h z a ha b hb
        · rw [List.mem_singleton.mp z] at ha hb
          rw [hg' a ha, hg' b hb]
      · show (hs ++ [g ++ [y]]).Pairwise _
        rw [List.pairwise_append]
        refine ⟨e6, List.pairwise_singleton _ _, fun h hh h' hh' a ha b hb => ?_⟩
        rw [List.mem_singleton.mp hh'] at hb
        rw [hg' b hb]
        exact e7 h hh a ha
    show Ok ((((((geti roll y).bi _).bi _).bi _)).bi _) _
    rw [hgeti, okb, okb, okb, okb]
    by_cases c : dayOf roll y = last
    · rw [if_neg (show ¬(!decide ((gx roll y).1 = last)) = true by have c' : (gx roll y).1 = last := c; simpa using c'), okb]
      rcases I5 with ⟨_, z⟩ | ⟨hs, g, e, hne, hg⟩
      · have z : last = -1 := z
        omega
      · have e : gs = hs ++ [g] := e
        subst e
        have hall : ∀ a ∈ g, dayOf roll a = dayOf roll y := fun a ha => by rw [c]; exact hg a ha
        have hgl : g.length ≤ i := by
          have h1 := congrArg List.length I1
          rw [List.flatten_append, List.flatten_cons, List.flatten_nil, List.append_nil, List.length_append, List.length_take] at h1
          omega
        rw [List.pairwise_append] at I4
        refine fin hs g last c.symm (by rw [List.flatten_append, List.flatten_cons, List.flatten_nil, List.append_nil]) (by rw [List.length_append] at I1b; omega) hgl (fun h hh => I2 h (List.mem_append_left _ hh)) (fun h hh => I3 h (List.mem_append_left _ hh)) hall I4.1 fun h hh a ha => ?_
        obtain ⟨b, hb⟩ := List.exists_mem_of_ne_nil g hne
        have := I4.2.2 h hh g (List.mem_singleton.mpr rfl) a ha b hb
        rw [hall b hb] at this
        exact this
    · rw [if_pos (show (!decide ((gx roll y).1 = last)) = true by have c' : ¬(gx roll y).1 = last := c; simpa using c'), okb]
      show Ok (((appM gs []).bi _).bi _) _
      rw [app_eq (small_lt (by omega)), okb, okb, okb]
      refine fin gs [] (dayOf roll y) rfl (List.append_nil _) I1b (Nat.zero_le _) I2 I3 (fun a h => nomatch h) I4 fun h hh a ha => ?_
      have h1 := hbefore a (List.mem_flatten.mpr ⟨h, hh, ha⟩)
      rcases I5 with ⟨z, _⟩ | ⟨hs, g, e, hne, hg⟩
      · have z : gs = [] := z
        rw [z] at hh
        cases hh
      · have e : gs = hs ++ [g] := e
        obtain ⟨b, hb⟩ := List.exists_mem_of_ne_nil g hne
        have hgd : dayOf roll b = last := hg b hb
        have h2 := hbefore b (List.mem_flatten.mpr ⟨g, by rw [e]; simp, hb⟩)
        have h3 : dayOf roll b < dayOf roll y := by omega
        rw [e] at hh
        rcases List.mem_append.mp hh with z | z
        · rw [e, List.pairwise_append] at I4
          have := I4.2.2 h z g (List.mem_singleton.mpr rfl) a ha b hb
          omega
        · rw [List.mem_singleton.mp z] at ha
          have : dayOf roll a = last := hg a ha
          omega
  · obtain ⟨I1, _, I2, I3, I4, _⟩ := I
    rw [List.take_length] at I1
    exact ⟨I1, I2, I3, I4⟩
def wantsL (roll : List Lic) (calls : List Int) : List Int := (roll.zip calls).map fun (y1 : Lic × Int) => min y1.1.2.2.2 y1.2
theorem wants_eq (roll : List Lic) (calls : List Int) : m_wants_of roll calls = .ok (wantsL roll calls) := rfl
theorem group_in {roll : List Lic} {gs : List (List Int)} (G : GroupsOk roll gs) {i : Nat} {g : List Int} (hg : gs[i]? = some g) : (∀ k ∈ g, 0 ≤ k ∧ k < roll.length) ∧ g.Pairwise (· < ·) ∧ (∀ k ∈ g, k ∉ (gs.take i).flatten) ∧ (∀ a ∈ (gs.take i).flatten, ∀ b ∈ g, dayOf roll a < dayOf roll b) ∧ ∀ a ∈ g, ∀ b ∈ g, dayOf roll a = dayOf roll b := by
  have hgm := List.mem_of_getElem? hg
  have hmem : ∀ k ∈ g, k ∈ rankedL roll := fun k hk => by rw [← G.flat]; exact List.mem_flatten.mpr ⟨g, hgm, hk⟩
  have hil := getElem?_some_of hg
  have hinc : ∀ a ∈ (gs.take i).flatten, ∀ b ∈ g, dayOf roll a < dayOf roll b := fun a ha b hb => by
    obtain ⟨h, hh, hah⟩ := List.mem_flatten.mp ha
    obtain ⟨j, hj⟩ := List.mem_iff_getElem?.mp hh
    have hjl := getElem?_some_of hj
    rw [List.length_take] at hjl
    rw [List.getElem?_take_of_lt (by omega)] at hj
    have hjl2 := getElem?_some_of hj
    have := (List.pairwise_iff_getElem.mp G.inc) j i hjl2 hil (by omega)
    rw [List.getElem?_eq_getElem hjl2] at hj
    rw [List.getElem?_eq_getElem hil] at hg
    rw [Option.some.inj hj, Option.some.inj hg] at this
    exact this a hah b hb
  refine ⟨fun k hk => ranked_mem.mp (hmem k hk), ?_, fun k hk hk' => ?_, hinc, G.same g hgm⟩
  · have hsub : g.Sublist (rankedL roll) := by
      rw [← G.flat]
      exact List.sublist_flatten_of_mem hgm
    have h1 := List.Pairwise.sublist hsub (ranked_sorted roll)
    refine h1.imp_of_mem fun {a b} ha hb h => ?_
    have := G.same g hgm a ha b hb
    omega
  · have := hinc k hk' k hk
    omega
theorem deal_ok {r s : List Int} {rk : Int → Int} (R : Riv r rk) (hn : r.length ≤ 60000) (hs : s.length = r.length) (h0 : ∀ q : Int, 0 ≤ q → q < r.length → 0 ≤ gx s q) {roll : List Lic} {calls : List Int} (hz : ∀ o ∈ roll, LicOk r o) (hl : roll.length ≤ 60000) (hd : ∀ k : Int, 0 ≤ k → k < roll.length → 0 ≤ dayOf roll k) (hc : calls.length = roll.length) (hw : ∀ k : Int, 0 ≤ k → k < roll.length → 0 ≤ gx (wantsL roll calls) k) :
    Ok (m_deal r s roll calls) (Dealt r s roll (wantsL roll calls)) := by
  unfold m_deal
  have hwl : (wantsL roll calls).length = roll.length := by unfold wantsL; rw [List.length_map, List.length_zip]; omega
  have lz : ∀ k : Int, 0 ≤ k → k < roll.length → LicOk r (gx roll k) := fun k k0 k1 => hz _ (gx_mem k0 k1)
  refine Ok.bi (nat_ok R hn hs) fun N hN => ?_
  obtain ⟨N1, N2⟩ := hN
  have N3 := nat_up R N2
  rw [wants_eq, okb, rep_eq (by omega) (by omega), okb, Int.toNat_natCast]
  refine Ok.bi (groups_ok hl hd) fun gs G => ?_
  refine Ok.bi (foldM_ok (fun i (st : List Int × List Int) => st.1.length = r.length ∧ st.2.length = roll.length ∧ (∀ p : Int, 0 ≤ p → p < r.length → gx st.1 p = upS r s p - hR r roll st.2 p ∧ 0 ≤ gx st.1 p) ∧
    (∀ k : Int, 0 ≤ k → k < roll.length → 0 ≤ gx st.2 k ∧ gx st.2 k ≤ gx (wantsL roll calls) k ∧ (k ∉ (gs.take i).flatten → gx st.2 k = 0)) ∧
    ∀ k ∈ (gs.take i).flatten, gx st.2 k = gx (wantsL roll calls) k ∨ ∃ p ∈ lstr r (gx roll k), gx st.1 p = 0 ∧ Ahd r roll st.2 p ((gx roll k).1, gx st.2 k + 1, k)) ⟨N1, List.length_replicate .., fun p p0 p1 => ?_, fun k k0 k1 => ?_, fun k hk => nomatch hk⟩ fun i g st hy I => ?_) fun st I => ?_
  · have e : hR r roll (List.replicate roll.length 0) p = 0 := sumR_zero fun k k0 k1 => by
      rw [gx_rep k0 k1]
      split <;> rfl
    rw [e]
    have := upS_nonneg h0 p
    have := N3 p p0 p1
    exact ⟨by show gx N p = _ - 0; omega, by show 0 ≤ gx N p; omega⟩
  · show 0 ≤ gx (List.replicate roll.length 0) k ∧ _
    rw [gx_rep k0 k1]
    exact ⟨Int.le_refl _, hw k k0 k1, fun _ => rfl⟩
  · obtain ⟨left, takes⟩ := st
    obtain ⟨I1, I2, I3, I4, I5⟩ := I
    have I1 : left.length = r.length := I1
    have I2 : takes.length = roll.length := I2
    obtain ⟨g1, g2, g3, g4, g5⟩ := group_in G hy
    have wmap : mapMx g (fun (y8 : Int) => ((Res.ok r).bi fun u12 => ((geti roll y8).bi fun u14 => (Res.ok (())).bi fun u15 => Res.ok (u14, u15)).bi fun u13 => Res.ok (u12, u13)).bi fun g11 => m_reaches_of g11.1 g11.2.1) = .ok (g.map fun k => lstr r (gx roll k)) := mapMx_eq fun k hk => by
      obtain ⟨k0, k1⟩ := g1 k hk
      rw [okb, geti_eq k0 k1, okb, okb, okb, okb]
      exact reach_eq R hn (lz k k0 k1)
    have rmap : mapMx g (fun (y17 : Int) => geti (wantsL roll calls) y17) = .ok (g.map (gx (wantsL roll calls))) := mapMx_eq fun k hk => by
      obtain ⟨k0, k1⟩ := g1 k hk
      exact geti_eq k0 (by omega)
    have hgl : g.length ≤ roll.length := by
      have h1 : g.Sublist (rankedL roll) := by
        rw [← G.flat]
        exact List.sublist_flatten_of_mem (List.mem_of_getElem? hy)
      have h2 := h1.length_le
      rw [(ranked_perm roll).length_eq, rangeL_length] at h2
      omega
    have gw : ∀ j : Int, 0 ≤ j → j < g.length → gx (g.map fun k => lstr r (gx roll k)) j = lstr r (gx roll (gx g j)) := fun j j0 j1 => gx_map j0 j1
    have gr : ∀ j : Int, 0 ≤ j → j < g.length → gx (g.map (gx (wantsL roll calls))) j = gx (wantsL roll calls) (gx g j) := fun j j0 j1 => gx_map j0 j1
    have gm : ∀ j : Int, 0 ≤ j → j < g.length → gx g j ∈ g := fun j j0 j1 => gx_mem j0 j1
    have S : TurnsOk left (g.map (gx (wantsL roll calls))) (g.map fun k => lstr r (gx roll k)) := by
      refine ⟨by omega, fun p p0 p1 => (I3 p p0 (by omega)).2, by rw [List.length_map]; omega, by rw [List.length_map, List.length_map], fun j j0 j1 => ?_, fun j j0 j1 => ?_, fun j j0 j1 => ?_⟩
      · rw [List.length_map] at j1
        rw [gr j j0 j1]
        have := g1 _ (gm j j0 j1)
        exact hw _ this.1 this.2
      · rw [List.length_map] at j1
        rw [gw j j0 j1]
        have := g1 _ (gm j j0 j1)
        exact (lstr_nodup R (lz _ this.1 this.2)).1
      · rw [List.length_map] at j1
        rw [gw j j0 j1, I1]
        have := g1 _ (gm j j0 j1)
        exact (lstr_nodup R (lz _ this.1 this.2)).2
    show Ok ((mapMx g fun (y8 : Int) => ((Res.ok r).bi fun u12 => ((geti roll y8).bi fun u14 => (Res.ok (())).bi fun u15 => Res.ok (u14, u15)).bi fun u13 => Res.ok (u12, u13)).bi fun g11 => m_reaches_of g11.1 g11.2.1).bi _) _
    rw [wmap, okb, okb, okb]
    show Ok (((((((mapMx g fun (y17 : Int) => geti (wantsL roll calls) y17).bi _).bi _).bi _).bi _).bi _)) _
    rw [rmap, okb, okb, okb, okb, okb]
    refine Ok.bi (deal_turns_ok S) fun rr hrr => ?_
    obtain ⟨t', l'⟩ := rr
    obtain ⟨⟨T1, T2, T3, T4⟩, T5⟩ := hrr
    have T2 : t'.length = (g.map fun k => lstr r (gx roll k)).length := T2
    rw [List.length_map] at T2
    have T1 : l'.length = left.length := T1
    -- the takes are laid
    refine Ok.bi (foldM_ok (fun j (T : List Int) => T.length = roll.length ∧ (∀ i : Int, 0 ≤ i → i < j → i < g.length → gx T (gx g i) = gx t' i) ∧ (∀ k : Int, 0 ≤ k → k < roll.length → k ∉ g.take j → gx T k = gx takes k) ∧ ∀ p : Int, hR r roll T p = hR r roll takes p + sumR (min j g.length) fun i => if p ∈ gx (g.map fun k => lstr r (gx roll k)) i then gx t' i else 0) ⟨I2, fun i _ _ => by omega, fun _ _ _ _ => rfl, fun p => by rw [Nat.zero_min]; show hR r roll takes p = hR r roll takes p + (0 : Int); omega⟩ fun j y T hy2 J => ?_) fun T J => ?_
    · obtain ⟨J1, J2, J3, J4⟩ := J
      rw [List.getElem?_zip_eq_some] at hy2
      obtain ⟨y1, y2⟩ := hy2
      have jl := getElem?_some_of y1
      have ym := List.mem_of_getElem? y1
      obtain ⟨k0, k1⟩ := g1 y.1 ym
      have e1 : gx g (j : Int) = y.1 := gx_nat y1
      have e2 : gx t' (j : Int) = y.2 := gx_nat y2
      have hnot : y.1 ∉ g.take j := fun z => by
        obtain ⟨a, ha⟩ := List.mem_iff_getElem?.mp z
        have hal := getElem?_some_of ha
        rw [List.length_take] at hal
        rw [List.getElem?_take_of_lt (by omega)] at ha
        have hal2 := getElem?_some_of ha
        have := (List.pairwise_iff_getElem.mp g2) a j hal2 jl (by omega)
        rw [List.getElem?_eq_getElem hal2] at ha
        rw [List.getElem?_eq_getElem jl] at y1
        rw [Option.some.inj ha, Option.some.inj y1] at this
        omega
      rw [seti_eq k0 (by omega), okb]
      have hold : gx T y.1 = 0 := by
        rw [J3 y.1 k0 k1 hnot]
        exact (I4 y.1 k0 k1).2.2 (g3 y.1 ym)
      refine ⟨(List.length_set ..).trans J1, fun i i0 i1 i2 => ?_, fun k kk0 kk1 hk => ?_, fun p => ?_⟩
      · have hgi := g1 _ (gm i i0 i2)
        rw [gx_set k0 hgi.1 (by omega)]
        by_cases e : gx g i = y.1
        · rw [if_pos e]
          have : i = (j : Int) := gx_inj (List.Pairwise.imp (fun h => Int.ne_of_lt h) g2) i0 i2 (by omega) (by omega) (e.trans e1.symm)
          rw [this, e2]
        · rw [if_neg e]
          have : i ≠ (j : Int) := fun z => e (by rw [z, e1])
          exact J2 i i0 (by omega) i2
      · rw [take_snoc y1, List.mem_append, not_or, List.mem_singleton] at hk
        rw [gx_set k0 kk0 (by omega), if_neg hk.2]
        exact J3 k kk0 kk1 hk.1
      · rw [hR_set J1 k0 k1, J4 p, hold]
        have e3 : min (j + 1) g.length = j + 1 := by omega
        have e4 : min j g.length = j := by omega
        rw [e3, e4, sumR_succ, gw j (by omega) (by omega), e1, e2]
        split <;> omega
    · obtain ⟨J1, J2, J3, J4⟩ := J
      have zl : (g.zip t').length = g.length := by rw [List.length_zip]; omega
      have zl' : (g.zip (t', l').1).length = g.length := zl
      rw [zl'] at J2 J3 J4
      rw [List.take_length] at J3
      have hH : ∀ p : Int, hR r roll T p = hR r roll takes p + hW (g.map fun k => lstr r (gx roll k)) t' p := fun p => by
        rw [J4 p, Nat.min_self]
        unfold hW
        rw [List.length_map]
      have hW0 : ∀ p : Int, 0 ≤ hW (g.map fun k => lstr r (gx roll k)) t' p := fun p => sumR_nonneg fun i i0 i1 => by
        split
        · exact (T4 i i0 i1).1
        · exact Int.le_refl _
      have hWi : ∀ p : Int, ∀ i : Int, 0 ≤ i → i < g.length → p ∈ lstr r (gx roll (gx g i)) → gx t' i ≤ hW (g.map fun k => lstr r (gx roll k)) t' p := fun p i i0 i1 hp => by
        have h1 := sumR_ge_one (n := (g.map fun k => lstr r (gx roll k)).length) (f := fun k => if p ∈ gx (g.map fun k => lstr r (gx roll k)) k then gx t' k else 0) (i := i) i0 (by rw [List.length_map]; exact i1) fun q q0 q1 => by
          show 0 ≤ if p ∈ gx (g.map fun k => lstr r (gx roll k)) q then gx t' q else 0
          split
          · exact (T4 q q0 q1).1
          · exact Int.le_refl _
        have h2 : (if p ∈ gx (g.map fun k => lstr r (gx roll k)) i then gx t' i else 0) ≤ _ := h1
        rw [gw i i0 i1, if_pos hp] at h2
        exact h2
      have hl' : ∀ p : Int, 0 ≤ p → p < r.length → gx l' p = gx left p - hW (g.map fun k => lstr r (gx roll k)) t' p ∧ 0 ≤ gx l' p := fun p p0 p1 => T3 p p0 (by show p < (left.length : Int); omega)
      have htake : (gs.take (i + 1)).flatten = (gs.take i).flatten ++ g := by
        rw [take_snoc hy, List.flatten_append, List.flatten_cons, List.flatten_nil, List.append_nil]
      refine ⟨T1.trans I1, J1, fun p p0 p1 => ?_, fun k k0 k1 => ?_, fun k hk => ?_⟩
      · have h1 := hl' p p0 p1
        have h2 := I3 p p0 p1
        have h2 : gx left p = upS r s p - hR r roll takes p ∧ 0 ≤ gx left p := h2
        exact ⟨by show gx l' p = upS r s p - hR r roll T p; rw [hH p]; omega, h1.2⟩
      · show 0 ≤ gx T k ∧ gx T k ≤ _ ∧ _
        by_cases kg : k ∈ g
        · obtain ⟨a, a0, a1, ae⟩ := mem_gx kg
          have h1 := J2 a a0 a1 a1
          rw [ae] at h1
          have h2 := T4 a a0 (by rw [List.length_map]; exact a1)
          have h2 : 0 ≤ gx t' a ∧ gx t' a ≤ gx (g.map (gx (wantsL roll calls))) a := h2
          rw [gr a a0 a1, ae] at h2
          refine ⟨by omega, by omega, fun z => absurd ?_ z⟩
          rw [htake]
          exact List.mem_append_right _ kg
        · have h1 := J3 k k0 k1 kg
          have h2 := I4 k k0 k1
          have h2 : 0 ≤ gx takes k ∧ gx takes k ≤ gx (wantsL roll calls) k ∧ (k ∉ (gs.take i).flatten → gx takes k = 0) := h2
          refine ⟨by omega, by omega, fun z => ?_⟩
          rw [h1]
          refine h2.2.2 fun y => z ?_
          rw [htake]
          exact List.mem_append_left _ y
      · show gx T k = _ ∨ ∃ p ∈ lstr r (gx roll k), gx l' p = 0 ∧ Ahd r roll T p ((gx roll k).1, gx T k + 1, k)
        rw [htake] at hk
        rcases List.mem_append.mp hk with hk | hk
        · -- an elder one
          have hkr : 0 ≤ k ∧ k < roll.length := by
            have : k ∈ rankedL roll := by
              rw [← G.flat]
              obtain ⟨h, hh, hkh⟩ := List.mem_flatten.mp hk
              exact List.mem_flatten.mpr ⟨h, List.mem_of_mem_take hh, hkh⟩
            exact ranked_mem.mp this
          have kg : k ∉ g := fun z => g3 k z hk
          have h1 := J3 k hkr.1 hkr.2 kg
          rw [h1]
          rcases I5 k hk with h | ⟨p, hp, hp0, hA⟩
          · exact .inl h
          · have hp0 : gx left p = 0 := hp0
            have hpr := (lstr_nodup R (lz k hkr.1 hkr.2)).2 p hp
            have h2 := hl' p hpr.1 hpr.2
            have h3 := hW0 p
            refine .inr ⟨p, hp, by omega, fun j hj => ?_⟩
            obtain ⟨q0, q1, q2, q3⟩ := hj
            by_cases jg : j ∈ g
            · exfalso
              obtain ⟨a, a0, a1, ae⟩ := mem_gx jg
              have h4 := J2 a a0 a1 a1
              rw [ae] at h4
              have h5 := hWi p a a0 a1 (by rw [ae]; exact q3)
              omega
            · have h4 := J3 j q0 q1 jg
              have h5 := hA j ⟨q0, q1, by rw [← h4]; exact q2, q3⟩
              unfold trp at h5 ⊢
              rw [h4]
              exact h5
        · -- one of this day
          obtain ⟨a, a0, a1, ae⟩ := mem_gx hk
          have hkr := g1 k hk
          have h1 := J2 a a0 a1 a1
          rw [ae] at h1
          have h6 := T5 a a0 (by rw [List.length_map]; exact a1)
          rw [h1]
          rcases h6 with h | ⟨p, hp, hp0, hj⟩
          · have h : gx t' a = gx (g.map (gx (wantsL roll calls))) a := h
            rw [gr a a0 a1, ae] at h
            exact .inl h
          · rw [gw a a0 a1, ae] at hp
            have hp0 : gx l' p = 0 := hp0
            refine .inr ⟨p, hp, hp0, fun j hj' => ?_⟩
            obtain ⟨q0, q1, q2, q3⟩ := hj'
            show dlt (trp roll T j) _
            unfold dlt trp
            show (gx roll j).1 < (gx roll k).1 ∨ ((gx roll j).1 = (gx roll k).1 ∧ (gx T j < gx t' a + 1 ∨ (gx T j = gx t' a + 1 ∧ j < k)))
            by_cases jg : j ∈ g
            · obtain ⟨b, b0, b1, be⟩ := mem_gx jg
              have h7 := J2 b b0 b1 b1
              rw [be] at h7
              have h8 := hj b b0 (by rw [List.length_map]; exact b1) (by rw [gw b b0 b1, be]; exact q3)
              have h8 : gx t' b ≤ gx t' a + if b < a then 1 else 0 := h8
              have h9 : (gx roll j).1 = (gx roll k).1 := g5 j jg k hk
              refine .inr ⟨h9, ?_⟩
              rw [h7]
              by_cases hba : b < a
              · rw [if_pos hba] at h8
                have hjk : j < k := by
                  have x1 := gx_get b0 b1
                  have x2 := gx_get a0 a1
                  have := (List.pairwise_iff_getElem.mp g2) b.toNat a.toNat (getElem?_some_of x1) (getElem?_some_of x2) (by omega)
                  rw [List.getElem?_eq_getElem (getElem?_some_of x1)] at x1
                  rw [List.getElem?_eq_getElem (getElem?_some_of x2)] at x2
                  rw [Option.some.inj x1, Option.some.inj x2, be, ae] at this
                  exact this
                omega
              · rw [if_neg hba] at h8
                omega
            · have h7 := J3 j q0 q1 jg
              have hjP : j ∈ (gs.take i).flatten := by
                by_cases z : j ∈ (gs.take i).flatten
                · exact z
                · have : gx takes j = 0 := (I4 j q0 q1).2.2 z
                  rw [h7, this] at q2
                  exact absurd q2 (by decide)
              exact .inl (g4 j hjP k hk)
  · obtain ⟨left, takes⟩ := st
    obtain ⟨I1, I2, I3, I4, I5⟩ := I
    rw [List.take_length] at I5
    refine ⟨I2, fun k k0 k1 => ⟨(I4 k k0 k1).1, (I4 k k0 k1).2.1⟩, fun p p0 p1 => ?_, fun k k0 k1 => ?_⟩
    · have := I3 p p0 p1
      have this : gx left p = upS r s p - hR r roll takes p ∧ 0 ≤ gx left p := this
      show hR r roll takes p ≤ _
      omega
    · have hk : k ∈ gs.flatten := by rw [G.flat]; exact ranked_mem.mpr ⟨k0, k1⟩
      rcases I5 k hk with h | ⟨p, hp, hp0, hA⟩
      · exact .inl h
      · have hpr := (lstr_nodup R (lz k k0 k1)).2 p hp
        have := I3 p hpr.1 hpr.2
        have this : gx left p = upS r s p - hR r roll takes p ∧ 0 ≤ gx left p := this
        have hp0 : gx left p = 0 := hp0
        exact .inr ⟨p, hp, by show hR r roll takes p = _; omega, hA⟩
theorem draw_ok (cell : Int) {k : Int} (h0 : 0 ≤ k) (h1 : k ≤ 1000000) : Ok (m_law_draw cell k) fun v => 0 ≤ v ∧ v < 4294967291 := by
  unfold m_law_draw
  obtain ⟨a, b⟩ := emod_bd cell (m := 1000000007) (by decide)
  have hm := mul_bd (x := cell % 1000000007) (y := 6007) (a := 1000000007) (b := 6007) (by omega) (by omega) (by omega) (by omega)
  have hk := mul_bd (x := 613) (y := k) (a := 613) (b := 1000000) (by omega) (by omega) (by omega) (by omega)
  rw [mul_small (x := cell % 1000000007) (by omega) (by omega) (by omega) (by omega), mul_small (x := 613) (by omega) (by omega) (by omega) (by omega)]
  simp only [ok_bi]
  generalize hs : cell % 1000000007 * 6007 + 613 * k + 104729 = seed
  have s0 : 0 ≤ seed := by omega
  have s1 : seed ≤ 10000000000000 := by omega
  have hq := mul_bd (x := seed) (y := seed) (a := 10000000000000) (b := 10000000000000) s0 s1 s0 s1
  rw [mul_small (x := seed) (y := seed) (by omega) (by omega) (by omega) (by omega), mul_small (x := 5) (by omega) (by omega) (by omega) (by omega)]
  simp only [ok_bi]
  obtain ⟨c, d⟩ := emod_bd (seed * seed) (m := 1000000007) (by decide)
  rw [mul_small (x := seed * seed % 1000000007) (by omega) (by omega) (by omega) (by omega)]
  simp only [ok_bi]
  obtain ⟨e, f⟩ := emod_bd (seed * seed % 1000000007 * (seed + 5 * k + 1)) (m := 998244353) (by decide)
  generalize seed * seed % 1000000007 * (seed + 5 * k + 1) % 998244353 = turned at e f
  rw [mul_small (x := 2) (by omega) (by omega) (by omega) (by omega)]
  simp only [ok_bi]
  rw [mul_small (x := turned) (by omega) (by omega) (by omega) (by omega)]
  simp only [ok_bi]
  exact emod_bd _ (by decide)
theorem mixed_ok (cell : Int) {n : Int} (h0 : 0 ≤ n) (h1 : n ≤ 1000000) : Ok (m_law_mixed cell n) fun xs => (xs.length : Int) = n ∧ ∀ i, 0 ≤ i → i < n → 0 ≤ gx xs i ∧ gx xs i < 4294967291 := by
  unfold m_law_mixed
  rw [rng1_eq (by omega) (by omega), ok_bi]
  refine Ok.imp (mapMx_ok2 (P := fun _ v => 0 ≤ v ∧ v < 4294967291) fun y hy => draw_ok cell (mem_rangeL.mp hy).1 (by have := (mem_rangeL.mp hy).2; omega)) fun xs ⟨h, k⟩ => ?_
  rw [rangeL_length] at h k
  exact ⟨by omega, fun i a b => k i a (by omega)⟩
theorem spots_inj {n a st : Int} (hn : 0 < n) (hst : st = 1 ∨ st = n - 1) {j k : Int} (j0 : 0 ≤ j) (j1 : j < n) (k0 : 0 ≤ k) (k1 : k < n) (e : (a + st * j) % n = (a + st * k) % n) : j = k := by
  have h := Int.emod_emod_of_dvd
  have hd : n ∣ (a + st * j) - (a + st * k) := Int.dvd_of_emod_eq_zero (Int.emod_eq_emod_iff_emod_sub_eq_zero.mp e)
  obtain ⟨c, hc⟩ := hd
  rcases hst with hs | hs
  · rw [hs] at hc
    have h1 : j - k = n * c := by
      rw [Int.one_mul, Int.one_mul] at hc
      omega
    have : c = 0 := by
      rcases Int.lt_trichotomy c 0 with z | z | z
      · have : n * c ≤ n * (-1) := Int.mul_le_mul_of_nonneg_left (by omega) (by omega)
        omega
      · exact z
      · have : n * 1 ≤ n * c := Int.mul_le_mul_of_nonneg_left (by omega) (by omega)
        omega
    rw [this] at h1
    omega
  · rw [hs] at hc
    have h2 : (n - 1) * j = n * j - j := by rw [Int.sub_mul, Int.one_mul]
    have h3 : (n - 1) * k = n * k - k := by rw [Int.sub_mul, Int.one_mul]
    have h1 : k - j = n * (c - j + k) := by
      rw [Int.mul_add, Int.mul_sub]
      omega
    generalize c - j + k = d at h1
    have : d = 0 := by
      rcases Int.lt_trichotomy d 0 with z | z | z
      · have : n * d ≤ n * (-1) := Int.mul_le_mul_of_nonneg_left (by omega) (by omega)
        omega
      · exact z
      · have : n * 1 ≤ n * d := Int.mul_le_mul_of_nonneg_left (by omega) (by omega)
        omega
    rw [this] at h1
    omega
theorem size_ok (cell : Int) : ∃ n : Int, geti [2, 3, 5, 8, 12, 7, 4, 40 - cell / 8 % 39] (cell % 8) = .ok n ∧ 2 ≤ n ∧ n ≤ 40 := by
  obtain ⟨a, b⟩ := emod_bd cell (m := 8) (by decide)
  obtain ⟨c, d⟩ := emod_bd (cell / 8) (m := 39) (by decide)
  generalize cell / 8 % 39 = u at c d
  have hc : cell % 8 = 0 ∨ cell % 8 = 1 ∨ cell % 8 = 2 ∨ cell % 8 = 3 ∨ cell % 8 = 4 ∨ cell % 8 = 5 ∨ cell % 8 = 6 ∨ cell % 8 = 7 := by omega
  rcases hc with e | e | e | e | e | e | e | e <;> rw [e]
  · exact ⟨2, by rw [geti_eq (by decide) (by simp)]; rfl, by decide, by decide⟩
  · exact ⟨3, by rw [geti_eq (by decide) (by simp)]; rfl, by decide, by decide⟩
  · exact ⟨5, by rw [geti_eq (by decide) (by simp)]; rfl, by decide, by decide⟩
  · exact ⟨8, by rw [geti_eq (by decide) (by simp)]; rfl, by decide, by decide⟩
  · exact ⟨12, by rw [geti_eq (by decide) (by simp)]; rfl, by decide, by decide⟩
  · exact ⟨7, by rw [geti_eq (by decide) (by simp)]; rfl, by decide, by decide⟩
  · exact ⟨4, by rw [geti_eq (by decide) (by simp)]; rfl, by decide, by decide⟩
  · exact ⟨40 - u, by rw [geti_eq (by decide) (by simp)]; rfl, by omega, by omega⟩
theorem river_ok (cell : Int) : Ok (m_law_river cell) fun r => (2 ≤ r.length ∧ r.length ≤ 40 ∧ ∃ p : Int, 0 ≤ p ∧ p < r.length ∧ gx r p ≠ -1) ∧ ∃ rk, Riv r rk := by
  unfold m_law_river
  obtain ⟨n, hn, n1, n2⟩ := size_ok cell
  rw [hn, okb]
  refine Ok.bi (mixed_ok (cell / 8) (n := n + 2) (by omega) (by omega)) fun xs ⟨hxl, hx⟩ => ?_
  have x0 := hx 0 (by omega) (by omega)
  have x1 := hx 1 (by omega) (by omega)
  obtain ⟨p0, p1⟩ := emod_bd (gx xs 0) (m := 2) (by decide)
  refine Ok.bi (P := fun st => st = 1 ∨ st = n - 1) ?_ fun st hst => ?_
  · rw [okb, geti_eq (by decide) (by omega)]
    simp only [okb]
    rw [mul_small (by omega) (by omega) (by omega) (by omega), okb]
    show 1 + gx xs 0 % 2 * (n - 2) = 1 ∨ 1 + gx xs 0 % 2 * (n - 2) = n - 1
    have hc : gx xs 0 % 2 = 0 ∨ gx xs 0 % 2 = 1 := by omega
    rcases hc with e | e <;> rw [e] <;> omega
  · rw [rng1_eq (by omega) (by omega), okb]
    have hsp : mapMx (rangeL 0 n) (fun (y9 : Int) => ((geti (xs) ((1 : Int))).bi fun u10 => (mulM (st) (y9)).bi fun u11 => Res.ok (u10 + u11)).bi fun u12 => (Res.ok (n)).bi fun u13 => modM u12 u13) = .ok ((rangeL 0 n).map fun k => (gx xs 1 + st * k) % n) := mapMx_eq fun y hy => by
      have hy := mem_rangeL.mp hy
      rw [geti_eq (by decide) (by omega), okb, mul_small (by omega) (by omega) (by omega) (by omega), okb, okb, okb, modM_eq (by omega)]
    rw [hsp, okb]
    generalize hS : ((rangeL 0 n).map fun k => (gx xs 1 + st * k) % n) = spots
    have sl : (spots.length : Int) = n := by
      rw [← hS, List.length_map, rangeL_length]
      omega
    have sg : ∀ k : Int, 0 ≤ k → k < n → gx spots k = (gx xs 1 + st * k) % n := fun k k0 k1 => by
      rw [← hS, gx_map k0 (by rw [rangeL_length]; omega), gx_rangeL k0 (by omega), Int.zero_add]
    have sb : ∀ k : Int, 0 ≤ k → k < n → 0 ≤ gx spots k ∧ gx spots k < n := fun k k0 k1 => by
      rw [sg k k0 k1]
      exact emod_bd _ (by omega)
    rw [rep_eq (by omega) (by omega), okb, rng2_eq (by omega) (by omega) (by omega) (by omega) (by omega), okb]
    refine Ok.bi (foldR_ok (by omega) (fun i (s : List Int) => (s.length : Int) = n ∧ (∀ p : Int, 0 ≤ p → p < n → gx s p = -1 ∨ ∃ k u : Int, 0 ≤ u ∧ u < k ∧ k < n ∧ p = gx spots k ∧ gx s p = gx spots u) ∧ (1 < i → ∃ p : Int, 0 ≤ p ∧ p < n ∧ gx s p ≠ -1)) ⟨by rw [List.length_replicate]; omega, fun p h0 h1 => .inl (gx_rep h0 (by omega)), fun z => by omega⟩ fun y s y0 y1 K => ?_) fun s K => ?_
    · obtain ⟨K1, K2, K3⟩ := K
      rw [geti_eq (xs := xs) (by omega) (by omega), okb]
      by_cases e : 0 < gx xs (y + 1) % 7 ∨ y = 1
      · rw [if_pos (by simpa using e)]
        rw [okb, okb, modM_eq (by omega)]
        simp only [okb]
        obtain ⟨u0, u1⟩ := emod_bd (gx xs (y + 1) / 14) (m := y) (by omega)
        obtain ⟨v0, v1⟩ := emod_bd (gx xs (y + 1) / 7) (m := 2) (by decide)
        have hu : ∃ u : Int, geti [y - 1, gx xs (y + 1) / 14 % y] (gx xs (y + 1) / 7 % 2) = .ok u ∧ 0 ≤ u ∧ u < y := by
          have hc : gx xs (y + 1) / 7 % 2 = 0 ∨ gx xs (y + 1) / 7 % 2 = 1 := by omega
          rcases hc with z | z <;> rw [z]
          · exact ⟨y - 1, by rw [geti_eq (by decide) (by simp)]; rfl, by omega, by omega⟩
          · exact ⟨_, by rw [geti_eq (by decide) (by simp)]; rfl, u0, u1⟩
        obtain ⟨u, hu, u2, u3⟩ := hu
        rw [hu]
        simp only [okb]
        rw [geti_eq (xs := spots) u2 (by omega), okb, geti_eq (xs := spots) (by omega) (by omega), okb]
        have hb := sb y (by omega) (by omega)
        rw [seti_eq hb.1 (by omega)]
        simp only [okb]
        refine ⟨by rw [List.length_set]; exact K1, fun p h0 h1 => ?_, fun _ => ⟨gx spots y, hb.1, hb.2, by rw [gx_set hb.1 hb.1 (by omega), if_pos rfl]; have := sb u u2 (by omega); omega⟩⟩
        rw [gx_set hb.1 h0 (by omega)]
        by_cases ep : p = gx spots y
        · rw [if_pos ep]
          exact .inr ⟨y, u, u2, u3, y1, ep, rfl⟩
        · rw [if_neg ep]
          exact K2 p h0 h1
      · rw [if_neg (by simpa using e), okb]
        exact ⟨K1, K2, fun z => K3 (by omega)⟩
    · have K1 := K.1
      refine ⟨⟨by omega, by omega, by obtain ⟨p, p0, p1, p2⟩ := K.2.2 (by omega); exact ⟨p, p0, by omega, p2⟩⟩, riv_of (n := n.toNat) (P := gx spots) (by omega) (fun k h0 h1 => ?_) (fun j k a b c d e => ?_) (fun p h0 h1 => ?_) (by omega)⟩
      · have := sb k h0 (by omega)
        omega
      · rw [sg j a (by omega), sg k c (by omega)] at e
        exact spots_inj (by omega) hst a (by omega) c (by omega) e
      · rcases K.2.1 p h0 (by omega) with z | ⟨k, u, z1, z2, z3, z4, z5⟩
        · exact .inl z
        · exact .inr ⟨k, u, z1, z2, by omega, z4, z5⟩
theorem lway_eq {r : List Int} {rk : Int → Int} (R : Riv r rk) (hn : r.length ≤ 60000) {i : Int} (hi : Pl r i) : m_law_way r i = .ok (wayL r i) := by
  refine Ok.eq ?_
  unfold m_law_way
  rw [ok_bi]
  refine Ok.bi (whileM_ok (Q := fun s => s.2 = wayL r i) (fun k s => Pl r s.1 ∧ s.2 ++ wayL r s.1 = wayL r i ∧ k = (wayL r s.1).length) (k := (wayL r i).length) ⟨hi, rfl, rfl⟩ ?_ ?_) fun s (hs : s.2 = wayL r i) => (show s.2 = wayL r i from hs)
  · have := (way_len R i hi).1
    rw [fuel_eq]
    omega
  · rintro k ⟨a, w⟩ ⟨h1, h2, h3⟩
    show if (!decide (a = -1)) = true then _ else _
    have h1 : Pl r a := h1
    have h2 : w ++ wayL r a = wayL r i := h2
    by_cases e : a = -1
    · subst e
      rw [way_end, List.append_nil] at h2
      rw [if_neg (by decide)]
      exact h2
    · obtain ⟨h0, hl⟩ : 0 ≤ a ∧ a < r.length := by
        rcases h1 with h | h
        · exact absurd h e
        · exact h
      rw [if_pos (by simpa using e)]
      have h3 : k = (wayL r a).length := h3
      rw [way_step R h0 hl] at h2 h3
      rw [List.length_cons] at h3
      refine ⟨(wayL r (gx r a)).length, h3, ?_⟩
      have hw : w.length < 16777216 := by
        have e1 := congrArg List.length h2
        rw [List.length_append] at e1
        have := (way_len R i hi).1
        omega
      show Ok ((appM w a).bi _) _
      rw [app_eq (small_lt hw), ok_bi]
      show Ok ((geti r a).bi _) _
      rw [geti_eq h0 hl, ok_bi]
      exact ⟨R.pl h0 hl, by rw [List.append_assoc]; exact h2, rfl⟩
theorem springs_ok (cell : Int) {n kind : Int} (h0 : 0 ≤ n) (h1 : n ≤ 1000000) : Ok (m_law_springs cell n kind) fun s => (s.length : Int) = n ∧ ∀ q : Int, 0 ≤ q → q < n → 0 ≤ gx s q := by
  unfold m_law_springs
  rw [okb]
  refine Ok.bi (mixed_ok cell h0 h1) fun xs ⟨hxl, hx⟩ => ?_
  refine Ok.bi (P := fun (s : List Int) => (s.length : Int) = n ∧ ∀ q : Int, 0 ≤ q → q < n → 0 ≤ gx s q) ?_ fun s (hs : (s.length : Int) = n ∧ ∀ q : Int, 0 ≤ q → q < n → 0 ≤ gx s q) => hs
  refine Ok.imp (foldM_ok (fun i (s : List Int) => s.length = i ∧ ∀ v ∈ s, 0 ≤ v) ⟨rfl, fun v hv => nomatch hv⟩ fun i y s hy I => ?_) fun s I => ⟨by have := I.1; omega, fun q q0 q1 => I.2 _ (gx_mem q0 (by have := I.1; omega))⟩
  obtain ⟨I1, I2⟩ := I
  have hil := getElem?_some_of hy
  have hyx := hx i (by omega) (by omega)
  rw [gx_nat hy] at hyx
  have ap : ∀ v : Int, 0 ≤ v → Ok (appM s v) fun s' => s'.length = i + 1 ∧ ∀ v ∈ s', 0 ≤ v := fun v hv => by
    rw [app_eq (small_lt (by omega))]
    refine ⟨by rw [List.length_append, List.length_singleton, I1], fun u hu => ?_⟩
    rcases List.mem_append.mp hu with h | h
    · exact I2 u h
    · rw [List.mem_singleton.mp h]
      exact hv
  have em : ∀ a b : Int, 0 < b → 0 ≤ a % b := fun a b hb => (emod_bd a hb).1
  refine Ok.bi (P := fun (s' : List Int) => s'.length = i + 1 ∧ ∀ v ∈ s', 0 ≤ v) ?_ fun z (hz : z.length = i + 1 ∧ ∀ v ∈ z, 0 ≤ v) => hz
  by_cases c1 : kind = 0
  · rw [if_pos (decide_eq_true c1)]
    exact Ok.bi (ap _ (em _ _ (by decide))) fun z (hz : z.length = i + 1 ∧ ∀ v ∈ z, 0 ≤ v) => hz
  · rw [if_neg (by simpa using c1)]
    refine Ok.bi (P := fun (s' : List Int) => s'.length = i + 1 ∧ ∀ v ∈ s', 0 ≤ v) ?_ fun z (hz : z.length = i + 1 ∧ ∀ v ∈ z, 0 ≤ v) => hz
    rw [mul_small (by omega) (by omega) (by omega) (by omega)]
    by_cases c2 : kind = 1
    · rw [if_pos (decide_eq_true c2)]
      simp only [okb]
      exact Ok.bi (ap _ (em _ _ (by decide))) fun z (hz : z.length = i + 1 ∧ ∀ v ∈ z, 0 ≤ v) => hz
    · rw [if_neg (by simpa using c2)]
      simp only [okb]
      obtain ⟨v0, v1⟩ := emod_bd (y / 5) (m := 3) (by decide)
      rw [geti_eq v0 (by simpa using v1), okb]
      refine Ok.bi (ap _ ?_) fun z (hz : z.length = i + 1 ∧ ∀ v ∈ z, 0 ≤ v) => hz
      have hg : gx [(0 : Int), 3, y * 7919 % (10 ^ 12 + 1)] (y / 5 % 3) ∈ [(0 : Int), 3, y * 7919 % (10 ^ 12 + 1)] := gx_mem v0 (by simpa using v1)
      have h3 := em (y * 7919) (10 ^ 12 + 1) (by decide)
      rcases List.mem_cons.mp hg with h | h
      · rw [h]; decide
      · rcases List.mem_cons.mp h with h | h
        · rw [h]; decide
        · rw [List.mem_singleton.mp h]
          exact h3
theorem drawn_ok {r : List Int} {rk : Int → Int} (R : Riv r rk) (hn : 0 < r.length) (hn2 : r.length ≤ 60000) (cell : Int) (hc : Bd 1048577 cell) {far kind : Int} (f0 : 0 ≤ far) (f1 : far ≤ 10 ^ 20) : Ok (m_law_drawn cell (r.length : Int) far kind) fun t => LicOk r t.1 ∧ 0 ≤ t.1.1 ∧ 0 ≤ t.1.2.2.2 ∧ 0 ≤ t.2 ∧ lstr r t.1 ≠ [] ∧ t.2 ≤ 10 ^ 12 ∧ t.1.2.2.1 = -1 := by
  unfold m_law_drawn
  refine Ok.bi (mixed_ok cell (n := 6) (by decide) (by decide)) fun xs ⟨hxl, hx⟩ => ?_
  have x3 := hx 3 (by decide) (by decide)
  have x4 := hx 4 (by decide) (by decide)
  have em : ∀ a b : Int, 0 < b → 0 ≤ a % b := fun a b hb => (emod_bd a hb).1
  simp only [geti_eq (xs := xs) (i := 0) (by decide) (by omega), geti_eq (xs := xs) (i := 1) (by decide) (by omega), geti_eq (xs := xs) (i := 2) (by decide) (by omega), geti_eq (xs := xs) (i := 3) (by decide) (by omega), geti_eq (xs := xs) (i := 4) (by decide) (by omega), geti_eq (xs := xs) (i := 5) (by decide) (by omega), okb]
  obtain ⟨s0, s1⟩ := emod_bd (gx xs 1) (m := (r.length : Int)) (by omega)
  refine Ok.bi (P := fun (s : Int × Int) => 0 ≤ s.1 ∧ 0 ≤ s.2 ∧ s.2 ≤ 10 ^ 12) ?_ fun s hs => ?_
  · by_cases c3 : 0 < kind
    · rw [if_pos (decide_eq_true c3), mulM_eq 1048577 64 hc (Bd.of 1000003 (by omega) (by omega)), mul_small (x := gx xs 3) (by omega) (by omega) (by omega) (by omega), mul_small (x := gx xs 4) (by omega) (by omega) (by omega) (by omega)]
      simp only [okb]
      exact ⟨em _ _ (by decide), em _ _ (by decide), by show gx xs 4 * 7919 % (10 ^ 12 + 1) ≤ 10 ^ 12; omega⟩
    · rw [if_neg (by simpa using c3)]
      exact ⟨em _ _ (by decide), em _ _ (by decide), by show gx xs 4 % 7 ≤ 10 ^ 12; omega⟩
  · refine Ok.bi (P := fun (c : Int) => 0 ≤ c ∧ c ≤ 10 ^ 12) ?_ fun c hc => ?_
    · by_cases c4 : gx xs 5 % 3 = 0
      · rw [if_pos (decide_eq_true c4)]
        show (0 : Int) ≤ 10 ^ 12 ∧ (10 : Int) ^ 12 ≤ 10 ^ 12
        decide
      · rw [if_neg (by simpa using c4)]
        exact hs.2
    · obtain ⟨v0, v1⟩ := emod_bd (gx xs 0) (m := 4) (by decide)
      rw [mul_small (by omega) (by omega) (by omega) (by omega)]
      simp only [okb]
      rw [modM_eq (by omega)]
      simp only [okb]
      refine ⟨⟨s0, s1, .inl rfl⟩, Int.mul_nonneg v0 f0, hs.1, hc.1, ?_, hc.2, rfl⟩
      show strL r (gx xs 1 % (r.length : Int)) (-1) ≠ []
      rw [str_step R s0 s1 (by omega)]
      exact List.cons_ne_nil _ _
theorem gx_wants {roll : List Lic} {calls : List Int} (hc : calls.length = roll.length) {k : Int} (k0 : 0 ≤ k) (k1 : k < roll.length) : gx (wantsL roll calls) k = min (gx roll k).2.2.2 (gx calls k) := by
  unfold wantsL
  rw [gx_map k0 (by rw [List.length_zip]; omega), zip_gx k0 k1 (by omega)]
theorem deal_of {r s : List Int} {rk : Int → Int} (R : Riv r rk) (hn : r.length ≤ 60000) (hs : s.length = r.length) (h0 : ∀ q : Int, 0 ≤ q → q < r.length → 0 ≤ gx s q) {roll : List Lic} {calls : List Int} (hz : ∀ o ∈ roll, LicOk r o ∧ 0 ≤ o.1 ∧ 0 ≤ o.2.2.2) (hl : roll.length ≤ 60000) (hc : calls.length = roll.length) (hw : ∀ c ∈ calls, 0 ≤ c) :
    ∃ t, m_deal r s roll calls = .ok t ∧ Dealt r s roll (wantsL roll calls) t := by
  refine (deal_ok R hn hs h0 (fun o ho => (hz o ho).1) hl (fun k k0 k1 => (hz _ (gx_mem k0 k1)).2.1) hc fun k k0 k1 => ?_).ex
  rw [gx_wants hc k0 k1]
  have h1 := (hz _ (gx_mem k0 k1)).2.2
  have h2 := hw _ (gx_mem k0 (by omega : k < (calls.length : Int)))
  omega
theorem whole_all (xs : List Int) : compM xs (fun y => m_law_whole y) (fun y => Res.ok y) = .ok xs := by
  rw [compM_eq (b := fun _ => true) (g := fun y => y) (fun y _ => whole_eq y) fun y _ _ => rfl]
  rw [List.filter_eq_self.mpr fun _ _ => rfl]
  exact congrArg _ (List.map_id' xs)
theorem roll_ok {r : List Int} {rk : Int → Int} (R : Riv r rk) (hn : 0 < r.length) (hn2 : r.length ≤ 60000) {cells : List Int} (hcm : ∀ z ∈ cells, Bd 1048577 z) (hcl : cells.length ≤ 60) {far kind : Int} (f0 : 0 ≤ far) (f1 : far ≤ 10 ^ 20) : Ok (foldM cells ([], []) (fun (y : Int) (st : List (Int × Int × Int × Int) × List Int) => (m_law_drawn y (r.length : Int) far kind).bi fun t => (appM st.1 t.1).bi fun a => (appM st.2 t.2).bi fun b => Res.ok (a, b))) fun st => st.1.length = cells.length ∧ st.2.length = cells.length ∧ (∀ o ∈ st.1, (LicOk r o ∧ 0 ≤ o.1 ∧ 0 ≤ o.2.2.2) ∧ lstr r o ≠ [] ∧ o.2.2.1 = -1) ∧ ∀ c ∈ st.2, 0 ≤ c ∧ c ≤ 10 ^ 12 := by
  refine foldM_ok (fun i (st : List Lic × List Int) => st.1.length = i ∧ st.2.length = i ∧ (∀ o ∈ st.1, (LicOk r o ∧ 0 ≤ o.1 ∧ 0 ≤ o.2.2.2) ∧ lstr r o ≠ [] ∧ o.2.2.1 = -1) ∧ ∀ c ∈ st.2, 0 ≤ c ∧ c ≤ 10 ^ 12) ⟨rfl, rfl, fun o ho => (nomatch ho), fun o ho => nomatch ho⟩ fun i cell st hy I => ?_
  have hi := getElem?_some_of hy
  obtain ⟨roll, calls⟩ := st
  obtain ⟨I1, I2, I3, I4⟩ := I
  have I1 : roll.length = i := I1
  have I2 : calls.length = i := I2
  refine Ok.bi (drawn_ok R hn hn2 cell (hcm cell (List.mem_of_getElem? hy)) f0 f1) fun t ho => ?_
  obtain ⟨o1, o2, o3, o4, o5, o6, o7⟩ := ho
  show Ok ((appM roll t.1).bi _) _
  rw [app_eq (small_lt (by omega)), okb]
  show Ok ((appM calls t.2).bi _) _
  rw [app_eq (small_lt (by omega)), okb]
  refine ⟨by show (roll ++ [t.1]).length = _; rw [List.length_append, I1]; rfl, by show (calls ++ [t.2]).length = _; rw [List.length_append, I2]; rfl, fun o' ho' => ?_, fun c' hc' => ?_⟩
  · rcases List.mem_append.mp (show o' ∈ roll ++ [t.1] from ho') with h | h
    · exact I3 o' h
    · rw [List.mem_singleton.mp h]
      exact ⟨⟨o1, o2, o3⟩, o5, o7⟩
  · rcases List.mem_append.mp (show c' ∈ calls ++ [t.2] from hc') with h | h
    · exact I4 c' h
    · rw [List.mem_singleton.mp h]
      exact ⟨o4, o6⟩
theorem free_up {r s : List Int} {rk : Int → Int} (R : Riv r rk) (hn : r.length ≤ 60000) (hs : s.length = r.length) {roll : List Lic} {takes : List Int} (hz : ∀ o ∈ roll, LicOk r o) :
    Ok (m_free_of r s roll takes) fun F => F.length = r.length ∧ ∀ p : Int, 0 ≤ p → p < r.length → gx F p = upS r s p - hS r p (roll.zip takes) := by
  unfold m_free_of
  refine Ok.bi (nat_ok R hn hs) fun N hN => ?_
  have hh := @mholds_ok r rk R hn roll takes hz
  show Ok ((m_holds_of r roll takes).bi fun held => Res.ok ((N.zip held).map fun y => y.1 - y.2)) _
  refine Ok.bi hh fun H hH => ?_
  obtain ⟨N1, N2⟩ := hN
  obtain ⟨H1, H2⟩ := hH
  have hl : ((N.zip H).map fun y => y.1 - y.2).length = r.length := by
    rw [List.length_map, List.length_zip, N1, H1, Nat.min_self]
  refine ⟨hl, fun p h0 h1 => ?_⟩
  have a := gx_get (xs := N) h0 (by omega)
  have b := gx_get (xs := H) h0 (by omega)
  have c : (N.zip H)[p.toNat]? = some (gx N p, gx H p) := by
    rw [List.getElem?_zip_eq_some]
    exact ⟨a, b⟩
  have d : ((N.zip H).map fun y => y.1 - y.2)[p.toNat]? = some (gx N p - gx H p) := by
    rw [List.getElem?_map, c]
    rfl
  have e := gx_get (xs := (N.zip H).map fun y => y.1 - y.2) h0 (by omega)
  rw [d] at e
  rw [← Option.some.inj e, nat_up R N2 p h0 h1, H2 p h0 h1]
def lowS (r xs : List Int) : List Int := (rangeL 0 (r.length : Int)).filter fun y => decide (y ∈ xs) && !((wayL r y).drop 1).any fun z => decide (z ∈ xs)
theorem has_any_eq (way xs : List Int) : m_has_any way xs = .ok (way.any fun z => decide (z ∈ xs)) := by
  unfold m_has_any
  induction way with
  | nil => rfl
  | cons y way ih =>
    show (if decide (y ∈ xs) = true then Res.ok true else _) = _
    rw [List.any_cons]
    by_cases c : y ∈ xs
    · rw [if_pos (decide_eq_true c), decide_eq_true c]
      rfl
    · rw [if_neg (by simpa using c), decide_eq_false c, Bool.false_or]
      exact ih
theorem setS_range {xs : List Int} {n : Int} (h : ∀ x ∈ xs, 0 ≤ x ∧ x < n) : setS xs = (rangeL 0 n).filter fun y => decide (y ∈ xs) := by
  refine rise_uniq (setS_rise xs) (List.Pairwise.filter _ (rangeL_lt _ _)) fun k => ?_
  rw [mem_setS, List.mem_filter, mem_rangeL, decide_eq_true_eq]
  exact ⟨fun hk => ⟨h k hk, hk⟩, fun z => z.2⟩
theorem foldM_filter {l : List Int} {c : Int → Bool} {f : Int → List Int → Res (List Int)} (hl : l.length ≤ 60000) (h : ∀ y ∈ l, ∀ s : List Int, s.length ≤ 60000 → f y s = .ok (if c y then s ++ [y] else s)) : foldM l [] f = .ok (l.filter c) := by
  refine Ok.eq (Ok.imp (foldM_ok (fun i (s : List Int) => s = (l.take i).filter c) rfl fun i y s hy I => ?_) fun s I => by have I : s = (l.take l.length).filter c := I; rw [I, List.take_length])
  have I : s = (l.take i).filter c := I
  have hil := getElem?_some_of hy
  have hsl : s.length ≤ 60000 := by
    rw [I]
    have h1 := List.length_filter_le c (l.take i)
    rw [List.length_take] at h1
    omega
  rw [h y (List.mem_of_getElem? hy) s hsl]
  show _ = (l.take (i + 1)).filter c
  rw [take_snoc hy, List.filter_append, ← I]
  cases e : c y with
  | true => simp [e]
  | false => simp [e]
theorem lowest_eq {r : List Int} {rk : Int → Int} (R : Riv r rk) (hn : r.length ≤ 60000) {xs : List Int} (hx : ∀ x ∈ xs, 0 ≤ x ∧ x < (r.length : Int)) (hl : xs.length < 63) : m_lowest_of r xs = .ok (lowS r xs) := by
  unfold m_lowest_of
  rw [okb, show setSortM xs = .ok (setS xs) from gd_pos hl, okb, setS_range hx]
  rw [foldM_filter (c := fun y => !((wayL r y).drop 1).any fun z => decide (z ∈ xs)) (by
    have := List.length_filter_le (fun y => decide (y ∈ xs)) (rangeL 0 (r.length : Int))
    rw [rangeL_length] at this
    omega) (fun y hy s hs => ?_), okb]
  · unfold lowS
    rw [List.filter_filter]
    exact congrArg (fun p => Res.ok ((rangeL 0 (r.length : Int)).filter p)) (funext fun y => Bool.and_comm _ _)
  · have hy := mem_rangeL.mp (List.mem_filter.mp hy).1
    rw [way_of_eq R hn (.inr ⟨hy.1, hy.2⟩)]
    simp only [okb]
    rw [cut_tail, has_any_eq, okb]
    cases e : ((wayL r y).drop 1).any fun z => decide (z ∈ xs) with
    | true => rfl
    | false =>
      show ((appM s y).bi _).bi _ = _
      rw [app_eq (small_lt (by omega))]
      rfl
theorem enumL_map (F : List Int) : enumL F = (rangeL 0 (F.length : Int)).map fun k => (k, gx F k) := by
  have h : enumL F = (enumL F).map fun y => (y.1, gx F y.1) := by
    conv => lhs; rw [← List.map_id (enumL F)]
    refine List.map_congr_left fun y hy => ?_
    rw [← (enum_mem hy).2.2]
    rfl
  rw [h, ← enum_fst F, List.map_map]
  rfl
theorem dry_eq {r s : List Int} {rk : Int → Int} (R : Riv r rk) (hn : r.length ≤ 60000) (hs : s.length = r.length) {roll : List Lic} {takes : List Int} (hz : ∀ o ∈ roll, LicOk r o) {F : List Int} (F1 : F.length = r.length) (F2 : ∀ p : Int, 0 ≤ p → p < r.length → gx F p = upS r s p - hS r p (roll.zip takes)) : m_dry_of r s roll takes = .ok ((rangeL 0 (r.length : Int)).filter fun p => decide (gx F p = 0)) := by
  unfold m_dry_of
  obtain ⟨U, hU, U1, U2⟩ := (free_up R hn hs hz (takes := takes)).ex
  have e : U = F := ext_gx (by omega) fun p p0 p1 => by rw [U2 p p0 (by omega), F2 p p0 (by omega)]
  rw [hU, okb, e, enumL_map, List.filter_map, List.map_map, F1]
  exact congrArg Res.ok (List.map_id' _)
theorem loopC_pass {α ρ : Type} {l : List α} {B : α → Unit → (Unit → Res ρ) → Res ρ} {k : Unit → Res ρ} (h : ∀ y ∈ l, ∀ next, B y () next = next ()) : loopC l () B k = k () := by
  induction l with
  | nil => rfl
  | cons x r ih =>
    show B x () _ = _
    rw [h x (List.mem_cons_self ..)]
    exact ih fun y hy => h y (List.mem_cons_of_mem _ hy)
theorem low_dry {r : List Int} {rk : Int → Int} (R : Riv r rk) {dry : List Int} {q : Int} : q ∈ lowS r dry ↔ (0 ≤ q ∧ q < (r.length : Int)) ∧ q ∈ dry ∧ low r (fun p => p ∈ dry) q = q := by
  unfold lowS
  rw [List.mem_filter, mem_rangeL, Bool.and_eq_true, decide_eq_true_eq, Bool.not_eq_true']
  constructor
  · rintro ⟨hb, hd, hn⟩
    refine ⟨hb, hd, ?_⟩
    rcases low_spec R (fun p => p ∈ dry) (.inr hb : Pl r q) with ⟨_, h⟩ | ⟨h1, h2, _⟩
    · exact absurd hd (h q (way_self R hb.1 hb.2))
    · rw [way_step R hb.1 hb.2] at h1
      rcases List.mem_cons.mp h1 with e | e
      · exact e
      · rw [List.any_eq_false] at hn
        refine absurd (decide_eq_true h2) (hn _ ?_)
        rw [way_step R hb.1 hb.2]
        exact e
  · rintro ⟨hb, hd, hl⟩
    refine ⟨hb, hd, ?_⟩
    rw [List.any_eq_false]
    intro z hz hzd
    have hzd : z ∈ dry := of_decide_eq_true hzd
    rw [way_step R hb.1 hb.2] at hz
    have hz : z ∈ wayL r (gx r q) := hz
    have hp : Pl r (gx r q) := R.pl hb.1 hb.2
    have hzb := way_mem R _ hp z hz
    rcases low_spec R (fun p => p ∈ dry) (.inr hzb : Pl r z) with ⟨_, h⟩ | ⟨h1, h2, h3⟩
    · exact h z (way_self R hzb.1 hzb.2) hzd
    · have hm : low r (fun p => p ∈ dry) z ∈ wayL r q := by
        rw [way_step R hb.1 hb.2]
        exact List.mem_cons_of_mem _ (way_trans R hp hz h1)
      have e := h3 q (.inr hb) hm
      rw [hl] at e
      rw [← e] at h1
      exact way_not R hb.1 hb.2 (way_trans R hp hz h1)
theorem low_in {r : List Int} {rk : Int → Int} (R : Riv r rk) {dry : List Int} {x : Int} (hx : Pl r x) (h : ∃ p ∈ wayL r x, p ∈ dry) : low r (fun p => p ∈ dry) x ∈ lowS r dry ∧ low r (fun p => p ∈ dry) x ∈ wayL r x := by
  rcases low_spec R (fun p => p ∈ dry) hx with ⟨_, h2⟩ | ⟨h1, h2, h3⟩
  · obtain ⟨p, hp, hd⟩ := h
    exact absurd hd (h2 p hp)
  · have hb := way_mem R x hx _ h1
    exact ⟨(low_dry R).mpr ⟨hb, h2, h3 _ (.inr hb) (way_self R hb.1 hb.2)⟩, h1⟩
theorem low_one {r : List Int} {rk : Int → Int} (R : Riv r rk) {dry : List Int} {x q : Int} (hx : Pl r x) (hq : q ∈ lowS r dry) (h : q ∈ wayL r x) : q = low r (fun p => p ∈ dry) x := by
  obtain ⟨hb, hd, hl⟩ := (low_dry R).mp hq
  rcases low_spec R (fun p => p ∈ dry) (.inr hb : Pl r q) with ⟨_, h2⟩ | ⟨h1, h2, h3⟩
  · exact absurd hd (h2 q (way_self R hb.1 hb.2))
  · rw [hl] at h3
    exact (h3 x hx h).symm
theorem sum_comm2 {C : List Int} {n : Nat} (f : Int → Int → Int) : (C.map fun q => sumR n (f q)).sum = sumR n fun k => (C.map fun q => f q k).sum := sum_sum_comm C (rangeL 0 n) f
theorem sum_sel {l : List Int} {b : Int → Bool} {f : Int → Int} : ((l.filter b).map f).sum = (l.map fun k => if b k then f k else 0).sum := by
  induction l with
  | nil => rfl
  | cons x l ih =>
    rw [List.map_cons, List.sum_cons, ← ih, List.filter_cons]
    split
    · rw [List.map_cons, List.sum_cons]
    · rw [Int.zero_add]
/-- the numbers of those whose way meets none -/
def offL (r : List Int) (roll : List Lic) (C : List Int) : List Int := (rangeL 0 (roll.length : Int)).filter fun k => !(wayL r (gx roll k).2.1).any fun z => decide (z ∈ C)
theorem cut_sum {r s : List Int} {rk : Int → Int} (R : Riv r rk) {roll : List Lic} {w t : List Int} (hz : ∀ o ∈ roll, LicOk r o) (hb : ∀ o ∈ roll, o.2.2.1 = -1) (D : Dealt r s roll w t) {dry : List Int} (hd : ∀ p, p ∈ dry ↔ (0 ≤ p ∧ p < (r.length : Int)) ∧ upS r s p - hR r roll t p = 0) :
    ((lowS r dry).map fun q => upS r s q).sum + ((offL r roll (lowS r dry)).map (gx w)).sum = t.sum := by
  have hlw : ∀ k : Int, 0 ≤ k → k < roll.length → lstr r (gx roll k) = wayL r (gx roll k).2.1 := fun k k0 k1 => lstr_way R (hz _ (gx_mem k0 k1)) (hb _ (gx_mem k0 k1))
  have hpl : ∀ k : Int, 0 ≤ k → k < roll.length → Pl r (gx roll k).2.1 := fun k k0 k1 => by have := hz _ (gx_mem k0 k1); exact .inr ⟨this.1, this.2.1⟩
  have hnd : (lowS r dry).Nodup := by unfold lowS; exact List.Nodup.sublist List.filter_sublist (nodup_rangeL _ _)
  have h1 : ((lowS r dry).map fun q => upS r s q).sum = sumR roll.length fun k => ((lowS r dry).map fun q => if q ∈ wayL r (gx roll k).2.1 then gx t k else 0).sum := by
    rw [← sum_comm2 fun q k => if q ∈ wayL r (gx roll k).2.1 then gx t k else 0]
    refine sum_congr fun q hq => ?_
    have hq := (low_dry R).mp hq
    have h2 := ((hd q).mp hq.2.1).2
    have h3 : hR r roll t q = sumR roll.length fun k => if q ∈ wayL r (gx roll k).2.1 then gx t k else 0 := sumR_congr fun k k0 k1 => by
      show (if q ∈ lstr r (gx roll k) then gx t k else 0) = _
      rw [hlw k k0 k1]
    omega
  have h2 : ((offL r roll (lowS r dry)).map (gx w)).sum = sumR roll.length fun k => if (!(wayL r (gx roll k).2.1).any fun z => decide (z ∈ lowS r dry)) = true then gx w k else 0 := by
    unfold offL
    rw [sum_sel]
    rfl
  rw [h1, h2, ← sumR_add, ← sum_gx t, D.len]
  refine sumR_congr fun k k0 k1 => ?_
  show ((lowS r dry).map fun q => if q ∈ wayL r (gx roll k).2.1 then gx t k else 0).sum + (if (!(wayL r (gx roll k).2.1).any fun z => decide (z ∈ lowS r dry)) = true then gx w k else 0) = gx t k
  cases e : (wayL r (gx roll k).2.1).any fun z => decide (z ∈ lowS r dry) with
  | true =>
    obtain ⟨z, hz1, hz2⟩ := List.any_eq_true.mp e
    have hz2 : z ∈ lowS r dry := of_decide_eq_true hz2
    rw [sum_map_one (i := z) hnd hz2 fun x hx hne => if_neg fun hxw => hne ((low_one R (hpl k k0 k1) hx hxw).trans (low_one R (hpl k k0 k1) hz2 hz1).symm), if_pos hz1, if_neg (by decide), Int.add_zero]
  | false =>
    have hno : ∀ q ∈ lowS r dry, q ∉ wayL r (gx roll k).2.1 := fun q hq hqw => by
      rw [List.any_eq_false] at e
      exact e q hqw (decide_eq_true hq)
    rw [sum_map_zero fun q hq => if_neg (hno q hq), if_pos (by decide), Int.zero_add]
    rcases D.sh k k0 k1 with h | ⟨p, hp, h, _⟩
    · exact h.symm
    · exfalso
      rw [hlw k k0 k1] at hp
      have hpb := way_mem R _ (hpl k k0 k1) p hp
      obtain ⟨a, b⟩ := low_in R (hpl k k0 k1) ⟨p, hp, (hd p).mpr ⟨hpb, by omega⟩⟩
      exact hno _ a b
theorem cut_of_ok {r s : List Int} {rk : Int → Int} (R : Riv r rk) (hl1 : r.length ≤ 40) (hsl : s.length = r.length) {roll : List Lic} {calls t : List Int} (hz : ∀ o ∈ roll, LicOk r o ∧ 0 ≤ o.1 ∧ 0 ≤ o.2.2.2) (hbk : ∀ o ∈ roll, o.2.2.1 = -1) (hrl : roll.length ≤ 60) (I2 : calls.length = roll.length) (ht : m_deal r s roll calls = .ok t) (T : Dealt r s roll (wantsL roll calls) t) : ∃ C O, m_cut_of r s roll calls = .ok (t.sum, C, O) := by
  have tl := T.len
  have hzl : ∀ o ∈ roll, LicOk r o := fun o ho => (hz o ho).1
  have hpl : ∀ k : Int, 0 ≤ k → k < roll.length → Pl r (gx roll k).2.1 := fun k k0 k1 => by have := hzl _ (gx_mem k0 k1); exact .inr ⟨this.1, this.2.1⟩
  obtain ⟨N, hN, N1, N2⟩ := (nat_ok R (by omega) hsl).ex
  have N3 := nat_up R N2
  -- what is dry
  obtain ⟨F, hF, F1, F2⟩ := (free_up R (by omega) hsl hzl (takes := t)).ex
  have hdry := dry_eq R (by omega) hsl hzl F1 F2
  have F2 : ∀ p : Int, 0 ≤ p → p < r.length → gx F p = upS r s p - hR r roll t p := fun p p0 p1 => by rw [F2 p p0 p1, hS_hR tl]
  have hdm : ∀ p, p ∈ (rangeL 0 (r.length : Int)).filter (fun p => decide (gx F p = 0)) ↔ (0 ≤ p ∧ p < (r.length : Int)) ∧ upS r s p - hR r roll t p = 0 := fun p => by
    rw [List.mem_filter, mem_rangeL, decide_eq_true_eq]
    constructor
    · rintro ⟨a, b⟩
      exact ⟨a, by rw [← F2 p a.1 a.2]; exact b⟩
    · rintro ⟨a, b⟩
      exact ⟨a, by rw [F2 p a.1 a.2]; exact b⟩
  have hdl : ((rangeL 0 (r.length : Int)).filter fun p => decide (gx F p = 0)).length ≤ 40 := by
    have := List.length_filter_le (fun p => decide (gx F p = 0)) (rangeL 0 (r.length : Int))
    rw [rangeL_length] at this
    omega
  generalize (rangeL 0 (r.length : Int)).filter (fun p => decide (gx F p = 0)) = dry at hdry hdm hdl
  have hlow := lowest_eq R (by omega) (xs := dry) (fun x hx => ((hdm x).mp hx).1) (by omega)
  have hsum := cut_sum R hzl hbk T hdm
  have hCb : ∀ q ∈ lowS r dry, 0 ≤ q ∧ q < (r.length : Int) := fun q hq => ((low_dry R).mp hq).1
  have hCr : (lowS r dry).Pairwise (· < ·) := by unfold lowS; exact List.Pairwise.filter _ (rangeL_lt _ _)
  have hlw : ∀ k : Int, 0 ≤ k → k < roll.length → lstr r (gx roll k) = wayL r (gx roll k).2.1 := fun k k0 k1 => lstr_way R (hzl _ (gx_mem k0 k1)) (hbk _ (gx_mem k0 k1))
  have hOb : ∀ k ∈ offL r roll (lowS r dry), 0 ≤ k ∧ k < (roll.length : Int) := fun k hk => by unfold offL at hk; exact mem_rangeL.mp (List.mem_filter.mp hk).1
  have hOr : (offL r roll (lowS r dry)).Pairwise (· < ·) := by unfold offL; exact List.Pairwise.filter _ (rangeL_lt _ _)
  have hwl : (wantsL roll calls).length = roll.length := by unfold wantsL; rw [List.length_map, List.length_zip]; omega
  -- the cut
  have hcut : m_cut_of r s roll calls = .ok (((lowS r dry).map (gx N)).sum + ((offL r roll (lowS r dry)).map (gx (wantsL roll calls))).sum, lowS r dry, offL r roll (lowS r dry)) := by
    unfold m_cut_of
    rw [loopC_pass fun y hy next => by rw [hbk y hy]; rfl]
    rw [ht]
    simp only [okb]
    rw [hdry, okb, hlow]
    simp only [okb]
    have hoff : foldM (enumL roll) ([] : List Int) (fun (y24 : Int × (Int × Int × Int × Int)) (s23 : (List Int)) =>
        (((((m_reaches_of r (y24.2)).bi fun u30 => Res.ok (u30, lowS r dry, ())).bi fun g29 => m_has_any g29.1 g29.2.1).bi fun u32 => Res.ok (!u32)).bi fun c38 => if c38 then (appM (s23) (y24.1)).bi fun (numbers_35 : List Int) =>
        Res.ok numbers_35 else Res.ok s23).bi fun (s33 : (List Int)) => Res.ok s33) = .ok (offL r roll (lowS r dry)) := by
      refine Ok.eq (Ok.imp (foldM_ok (fun i (st : List Int) => st = (rangeL 0 (i : Int)).filter fun k => !(wayL r (gx roll k).2.1).any fun z => decide (z ∈ lowS r dry)) rfl fun i y st hy I => ?_) fun st I => by rw [enumL_length] at I; exact I)
      obtain ⟨m1, m2, m3⟩ := enum_mem (List.mem_of_getElem? hy)
      have hyi := (enumL_get hy).1
      have I : st = (rangeL 0 (i : Int)).filter fun k => !(wayL r (gx roll k).2.1).any fun z => decide (z ∈ lowS r dry) := I
      have hstl : st.length ≤ 60000 := by
        rw [I]
        have := List.length_filter_le (fun k => !(wayL r (gx roll k).2.1).any fun z => decide (z ∈ lowS r dry)) (rangeL 0 (i : Int))
        rw [rangeL_length] at this
        omega
      show Ok _ fun st => st = (rangeL 0 ((i + 1 : Nat) : Int)).filter fun k => !(wayL r (gx roll k).2.1).any fun z => decide (z ∈ lowS r dry)
      rw [show ((i + 1 : Nat) : Int) = (i : Int) + 1 by omega, rangeL_snoc, List.filter_append, ← I, ← hyi]
      have hzy : LicOk r y.2 := by rw [m3]; exact hzl _ (gx_mem m1 m2)
      rw [reach_eq R (by omega) hzy, m3, hlw y.1 m1 m2]
      simp only [okb]
      rw [has_any_eq]
      simp only [okb]
      cases e : (wayL r (gx roll y.1).2.1).any fun z => decide (z ∈ lowS r dry) with
      | true =>
        show st = _
        simp [e]
      | false =>
        rw [if_pos (show (!false) = true from rfl), app_eq (small_lt (by omega)), okb]
        show st ++ [y.1] = _
        simp [e]
    rw [hoff, okb, hN, okb, wants_eq, okb]
    rw [mapMx_eq (g := gx N) fun q hq => geti_eq (hCb q hq).1 (by have := (hCb q hq).2; omega), okb, okb]
    rw [mapMx_eq (g := gx (wantsL roll calls)) fun q hq => geti_eq (hOb q hq).1 (by have := (hOb q hq).2; omega)]
    rfl
  have hNs : (lowS r dry).map (gx N) = (lowS r dry).map fun q => upS r s q := List.map_congr_left fun q hq => N3 q (hCb q hq).1 (hCb q hq).2
  rw [hNs, hsum] at hcut
  exact ⟨_, _, hcut⟩
theorem try_exc {β : Type} {ns : List Str} {c : Str} (h : c ∈ ns) : tryM ns (Res.exc c : Res β) = .ok (.inr c) := by
  unfold tryM
  exact if_pos h
theorem try_ok {β : Type} {ns : List Str} {a : β} : tryM ns (Res.ok a : Res β) = .ok (.inl a) := id (Eq.refl _)
theorem cut_nil (xs : List Int) : True := trivial
theorem cut_parts {α : Type} (xs : List α) {n : Int} (h0 : 0 ≤ n) (h1 : n ≤ xs.length) : cutL xs none (some n) ++ cutL xs (some n) none = xs ∧ (cutL xs none (some n)).length = n.toNat := by
  obtain ⟨k, rfl⟩ : ∃ k : Nat, n = (k : Int) := ⟨n.toNat, by omega⟩
  have e1 : cutL xs none (some (k : Int)) = xs.take k := by
    unfold cutL
    show (xs.drop 0).take (HT.sIx xs.length xs.length (some (k : Int)) - 0) = _
    rw [HT.sIx_nat, List.drop_zero, Nat.sub_zero, Nat.min_eq_left (by omega)]
  have e2 : cutL xs (some (k : Int)) none = xs.drop k := by
    unfold cutL
    show (xs.drop (HT.sIx xs.length 0 (some (k : Int)))).take (xs.length - HT.sIx xs.length 0 (some (k : Int))) = _
    rw [HT.sIx_nat, Nat.min_eq_left (by omega)]
    exact List.take_of_length_le (by rw [List.length_drop]; exact Nat.le_refl _)
  rw [e1, e2]
  exact ⟨List.take_append_drop .., by rw [List.length_take]; omega⟩
theorem giving_ok {r : List Int} {rk : Int → Int} (R : Riv r rk) (hn2 : r.length ≤ 60000) (ht : ∃ p : Int, 0 ≤ p ∧ p < r.length ∧ gx r p ≠ -1) (cell : Int) {far : Int} (f0 : 0 ≤ far) (f1 : far ≤ 10 ^ 20) : Ok (m_law_giving cell r far) fun t => 0 ≤ t.1.1 ∧ (0 ≤ t.1.2.1 ∧ t.1.2.1 < r.length) ∧ t.1.2.2.1 ≠ -1 ∧ 0 ≤ t.1.2.2.2 ∧ 0 ≤ t.2 := by
  unfold m_law_giving
  refine Ok.bi (mixed_ok cell (n := 5) (by decide) (by decide)) fun xs ⟨hxl, hx⟩ => ?_
  have x2 := hx 2 (by decide) (by decide)
  rw [rng1_eq (by omega) (by omega), okb]
  rw [compM_eq (b := fun y => !decide (gx r y = -1)) (g := fun y => y) (fun y hy => by
    have hy := mem_rangeL.mp hy
    rw [geti_eq (xs := r) hy.1 hy.2]
    rfl) fun y _ _ => rfl, okb]
  rw [show List.map (fun y => y) ((rangeL 0 (r.length : Int)).filter fun y => !decide (gx r y = -1)) = (rangeL 0 (r.length : Int)).filter fun y => !decide (gx r y = -1) from List.map_id' _]
  have hne : (rangeL 0 (r.length : Int)).filter (fun y => !decide (gx r y = -1)) ≠ [] := by
    obtain ⟨p, p0, p1, p2⟩ := ht
    exact List.ne_nil_of_mem (a := p) (List.mem_filter.mpr ⟨mem_rangeL.mpr ⟨p0, p1⟩, by simpa using p2⟩)
  have hm : ∀ q ∈ (rangeL 0 (r.length : Int)).filter (fun y => !decide (gx r y = -1)), (0 ≤ q ∧ q < (r.length : Int)) ∧ gx r q ≠ -1 := fun q hq => by
    obtain ⟨a, b⟩ := List.mem_filter.mp hq
    exact ⟨mem_rangeL.mp a, by simpa using b⟩
  generalize (rangeL 0 (r.length : Int)).filter (fun y => !decide (gx r y = -1)) = tops at hne hm
  have hl := List.length_pos_iff.mpr hne
  simp only [geti_eq (xs := xs) (i := 0) (by decide) (by omega), geti_eq (xs := xs) (i := 1) (by decide) (by omega), geti_eq (xs := xs) (i := 2) (by decide) (by omega), geti_eq (xs := xs) (i := 3) (by decide) (by omega), geti_eq (xs := xs) (i := 4) (by decide) (by omega), okb]
  rw [modM_eq (by omega), okb]
  obtain ⟨a0, a1⟩ := emod_bd (gx xs 0) (m := (tops.length : Int)) (by omega)
  rw [geti_eq a0 a1]
  simp only [okb]
  obtain ⟨⟨t0, t1⟩, t2⟩ := hm _ (gx_mem a0 a1)
  generalize gx tops (gx xs 0 % (tops.length : Int)) = top at t0 t1 t2
  have hpl : Pl r top := .inr ⟨t0, t1⟩
  rw [lway_eq R hn2 hpl, okb]
  have hw1 := way_step R t0 t1
  have hb := R.pl t0 t1
  have hb2 : 0 ≤ gx r top ∧ gx r top < r.length := hb.resolve_left t2
  have hw2 := way_step R hb2.1 hb2.2
  have hwl : 2 ≤ (wayL r top).length := by rw [hw1, hw2]; simp
  rw [modM_eq (by omega)]
  simp only [okb]
  obtain ⟨b0, b1⟩ := emod_bd (gx xs 1) (m := ((wayL r top).length : Int) - 1) (by omega)
  rw [geti_eq (xs := wayL r top) (by omega) (by omega)]
  simp only [okb]
  have hbk := way_mem R _ hpl _ (gx_mem (xs := wayL r top) (i := 1 + gx xs 1 % (((wayL r top).length : Int) - 1)) (by omega) (by omega))
  generalize gx (wayL r top) (1 + gx xs 1 % (((wayL r top).length : Int) - 1)) = back at hbk
  rw [mul_small (x := gx xs 2) (by omega) (by omega) (by omega) (by omega)]
  simp only [okb]
  have hmo := emod_bd (gx xs 2 * 7919) (m := 10 ^ 12) (by decide)
  generalize gx xs 2 * 7919 % 10 ^ 12 = mo at hmo
  obtain ⟨d0, d1⟩ := emod_bd (gx xs 3) (m := 4) (by decide)
  have hmul := Int.mul_nonneg d0 f0
  rw [mul_small (x := gx xs 3 % 4) (by omega) (by omega) (by omega) (by omega)]
  simp only [okb]
  rw [geti_eq (xs := wayL r top) (i := 0) (by decide) (by omega)]
  simp only [okb]
  have h0 : gx (wayL r top) 0 = top := by rw [hw1]; rfl
  rw [h0]
  obtain ⟨q0, q1⟩ := emod_bd cell (m := 4) (by decide)
  have e9 := emod_bd (gx xs 4) (m := 9) (by decide)
  have g1 : ∃ m, geti [(0 : Int), mo + 1, mo + 1, 0] (cell % 4) = .ok m ∧ 0 ≤ m := ⟨_, geti_eq q0 (by simpa using q1), by
    have hh : ∀ v ∈ [(0 : Int), mo + 1, mo + 1, 0], 0 ≤ v := fun v hv => by
      simp only [List.mem_cons, List.not_mem_nil, or_false] at hv
      omega
    exact hh _ (gx_mem q0 (by simpa using q1))⟩
  have g2 : ∃ m, geti [mo + 1, (0 : Int), gx xs 4 % 9, 0] (cell % 4) = .ok m ∧ 0 ≤ m := ⟨_, geti_eq q0 (by simpa using q1), by
    have hh : ∀ v ∈ [mo + 1, (0 : Int), gx xs 4 % 9, 0], 0 ≤ v := fun v hv => by
      simp only [List.mem_cons, List.not_mem_nil, or_false] at hv
      omega
    exact hh _ (gx_mem q0 (by simpa using q1))⟩
  obtain ⟨m1, e1, m10⟩ := g1
  obtain ⟨m2, e2, m20⟩ := g2
  rw [e1]
  simp only [okb]
  rw [e2]
  simp only [okb]
  exact ⟨hmul, ⟨t0, t1⟩, by show back ≠ -1; omega, m10, m20⟩
theorem more_ok {r : List Int} (hn2 : r.length ≤ 60000) {roll : List Lic} (hl : roll.length ≤ 60) (hs : ∀ o ∈ roll, 0 ≤ o.2.1 ∧ o.2.1 < r.length) (cell : Int) : Ok (m_law_more roll r cell) fun f => f.length = roll.length ∧ ∀ i : Int, 0 ≤ i → i < roll.length → (gx f i).1 = (gx roll i).1 ∧ (gx f i).2.1 = (gx roll i).2.1 ∧ (gx f i).2.2.2 = (gx roll i).2.2.2 ∧ ((gx roll i).2.2.1 ≠ -1 → (gx f i).2.2.1 ≠ -1) := by
  unfold m_law_more
  rw [okb]
  refine Ok.bi (foldM_ok (fun i (f : List Lic) => f.length = i ∧ ∀ j : Int, 0 ≤ j → j < i → (gx f j).1 = (gx roll j).1 ∧ (gx f j).2.1 = (gx roll j).2.1 ∧ (gx f j).2.2.2 = (gx roll j).2.2.2 ∧ ((gx roll j).2.2.1 ≠ -1 → (gx f j).2.2.1 ≠ -1)) ⟨rfl, fun j a b => by omega⟩ fun i y f hy I => ?_) fun f I => by rw [enumL_length] at I; exact I
  obtain ⟨I1, I2⟩ := I
  obtain ⟨m1, m2, m3⟩ := enum_mem (List.mem_of_getElem? hy)
  have hyi := (enumL_get hy).1
  have hst := hs y.2 (by rw [m3]; exact gx_mem m1 m2)
  rw [okb, geti_eq (xs := r) hst.1 hst.2]
  simp only [okb, bi_bi]
  rw [modM_eq (by omega)]
  simp only [okb]
  refine Ok.bi (P := fun (c : Bool) => c = true → gx r y.2.2.1 ≠ -1) ?_ fun c hc => ?_
  · split
    · rename_i h
      have h : gx r y.2.2.1 ≠ -1 := by simpa using h
      have key : ∀ m : Res Bool, (∃ b, m = .ok b) → Ok m fun c => c = true → gx r y.2.2.1 ≠ -1 := fun m ⟨b, e⟩ => by
        rw [e]
        exact fun _ => h
      refine key _ ?_
      split
      · exact ⟨_, rfl⟩
      · split
        · exact ⟨_, rfl⟩
        · exact ⟨_, rfl⟩
    · exact fun z => Bool.noConfusion z
  refine Ok.bi (P := fun b => y.2.2.2.1 ≠ -1 → b ≠ -1) ?_ fun b hb => ?_
  · split
    · exact fun _ => hc (by assumption)
    · exact fun z => z
  rw [app_eq (small_lt (by omega)), okb]
  refine ⟨by show (f ++ [_]).length = i + 1; rw [List.length_append, I1]; rfl, fun j a b' => ?_⟩
  rw [gx_append a, I1]
  by_cases c : j < (i : Int)
  · rw [if_pos c]
    exact I2 j a c
  · rw [if_neg c, show j - (i : Int) = 0 by omega, show j = y.1 by omega, ← m3]
    exact ⟨rfl, rfl, rfl, hb⟩
theorem loopC_exc {α ρ : Type} {l : List α} {c : PySem.Str} {b : α → Bool} {B : α → Unit → (Unit → Res ρ) → Res ρ} {k : Unit → Res ρ} (h1 : ∀ y ∈ l, b y = true → ∀ next, B y () next = .exc c) (h2 : ∀ y ∈ l, b y = false → ∀ next, B y () next = next ()) (he : ∃ y ∈ l, b y = true) : loopC l () B k = .exc c := by
  induction l with
  | nil => obtain ⟨y, hy, _⟩ := he; cases hy
  | cons x l ih =>
    show B x () _ = _
    cases e : b x with
    | true => exact h1 x (List.mem_cons_self ..) e _
    | false =>
      rw [h2 x (List.mem_cons_self ..) e]
      refine ih (fun y hy => h1 y (List.mem_cons_of_mem _ hy)) (fun y hy => h2 y (List.mem_cons_of_mem _ hy)) ?_
      obtain ⟨y, hy, z⟩ := he
      rcases List.mem_cons.mp hy with rfl | hy
      · rw [e] at z; cases z
      · exact ⟨y, hy, z⟩
theorem refused_ok {r s : List Int} {roll : List Lic} {calls : List Int} (he : ∃ o ∈ roll, o.2.2.1 ≠ -1) : m_law_refused r s roll calls = .ok true := by
  have hc : m_cut_of r s roll calls = .exc (PySem.Str.ofString "NoCut") := by
    unfold m_cut_of
    obtain ⟨o, ho, hb⟩ := he
    refine loopC_exc (b := fun y => !decide (y.2.2.1 = -1)) (fun y _ hy next => by rw [if_pos hy]) (fun y _ hy next => by rw [if_neg (by rw [hy]; decide)]) ⟨o, ho, by simpa using hb⟩
  unfold m_law_refused
  rw [okb, hc]
  show ((tryM Mr.exN (.exc _ : Res Unit)).bi _).bi _ = _
  rw [try_exc (by decide +kernel), okb, okb]
  have ho : m_law_other_name (PySem.Str.ofString "NoCut") = .ok false := by
    unfold m_law_other_name
    rw [if_neg (by decide), if_neg (by decide), if_neg (by decide)]
    exact congrArg Res.ok (by decide)
  rw [okb]
  show (if isXO (some (PySem.Str.ofString "NoCut")) (PySem.Str.ofString "NoCut") = true then _ else _) = _
  rw [if_pos (by decide), okb]
  show (if (!(some (PySem.Str.ofString "NoCut") : Option Str).isNone) = true then _ else _) = _
  rw [if_pos (by decide)]
  show (((Res.ok (PySem.Str.ofString "NoCut")).bi _).bi _).bi _ = _
  rw [okb, okb, okb, ho]
  rfl
theorem whole_eq' (x : Int) : m_law_whole x = .ok true := rfl
theorem law_ok (script : List Int) (hb : ∀ z ∈ script, Builtin.Int.intBits z ≤ 1048576) : m_law script = .ok true := by
  refine Ok.eq ?_
  unfold m_law
  rw [cell_at_eq (k := 0) (by decide), cell_at_eq (k := 1) (by decide), cell_at_eq (k := 2) (by decide), cell_at_eq (k := 3) (by decide)]
  simp only [okb, bi_bi]
  generalize (if (0 : Int) < (script.length : Int) then gx script 0 else 0) = c0
  generalize (if (1 : Int) < (script.length : Int) then gx script 1 else 0) = c1
  generalize (if (2 : Int) < (script.length : Int) then gx script 2 else 0) = c2
  generalize (if (3 : Int) < (script.length : Int) then gx script 3 else 0) = c3
  refine Ok.bi (river_ok c0) fun r hr => ?_
  obtain ⟨⟨hl0, hl1, htop⟩, rk, R⟩ := hr
  refine Ok.bi (springs_ok c1 (n := (r.length : Int)) (by omega) (by omega)) fun s hs => ?_
  obtain ⟨hs1, hs2⟩ := hs
  have hsl : s.length = r.length := by omega
  have hs3 : ∀ q : Int, 0 ≤ q → q < r.length → 0 ≤ gx s q := fun q q0 q1 => hs2 q q0 (by omega)
  obtain ⟨d0, d1⟩ := emod_bd (c2 / 3) (m := 333333) (by decide)
  have hcl : (cutL script (some 4) (some 24)).length ≤ 20 := Nat.le_trans (cut_len_le script 4 24) (by decide)
  have hcm : ∀ z ∈ cutL script (some 4) (some 24), Bd 1048577 z := fun z hz => by
    unfold cutL at hz
    exact Bd.bits (hb z (List.mem_of_mem_drop (List.mem_of_mem_take hz)))
  generalize cutL script (some 4) (some 24) = cells at hcl hcm
  refine Ok.bi (roll_ok R (by omega) (by omega) hcm (by omega) (by omega) (by omega)) fun st I => ?_
  obtain ⟨roll, calls⟩ := st
  obtain ⟨I1, I2, I3, I4⟩ := I
  have I1 : roll.length = cells.length := I1
  have I2 : calls.length = cells.length := I2
  have I3 : ∀ o ∈ roll, (LicOk r o ∧ 0 ≤ o.1 ∧ 0 ≤ o.2.2.2) ∧ lstr r o ≠ [] ∧ o.2.2.1 = -1 := I3
  have I4 : ∀ c ∈ calls, 0 ≤ c ∧ c ≤ 10 ^ 12 := I4
  refine Ok.bi (giving_ok R (by omega) htop c3 (far := 1 + c2 / 3 % 333333) (by omega) (by omega)) fun t ht => ?_
  obtain ⟨one, call⟩ := t
  obtain ⟨g1, g2, g3, g4, g5⟩ := ht
  have g1 : 0 ≤ one.1 := g1
  have g2 : 0 ≤ one.2.1 ∧ one.2.1 < r.length := g2
  have g3 : one.2.2.1 ≠ -1 := g3
  have g4 : 0 ≤ one.2.2.2 := g4
  have g5 : 0 ≤ call := g5
  show Ok ((modM (c3 / 12) ((roll.length : Int) + 1)).bi _) _
  rw [modM_eq (by omega), okb]
  obtain ⟨a0, a1⟩ := emod_bd (c3 / 12) (m := (roll.length : Int) + 1) (by omega)
  generalize c3 / 12 % ((roll.length : Int) + 1) = at_ at a0 a1
  obtain ⟨p1, p2⟩ := cut_parts roll a0 (by omega)
  obtain ⟨p3, p4⟩ := cut_parts calls a0 (by omega)
  show Ok ((catM (cutL roll none (some at_)) [one]).bi _) _
  have pl : (cutL roll none (some at_)).length + (cutL roll (some at_) none).length = roll.length := by
    have := congrArg List.length p1
    rw [List.length_append] at this
    exact this
  have pl2 : (cutL calls none (some at_)).length + (cutL calls (some at_) none).length = calls.length := by
    have := congrArg List.length p3
    rw [List.length_append] at this
    exact this
  rw [cat_eq (by simp; omega), okb, cat_eq (by rw [List.length_append]; simp; omega), okb]
  have hm : ∀ o ∈ cutL roll none (some at_) ++ [one] ++ cutL roll (some at_) none, o = one ∨ o ∈ roll := fun o ho => by
    rw [← p1]
    rcases List.mem_append.mp ho with h | h
    · rcases List.mem_append.mp h with h | h
      · exact .inr (List.mem_append_left _ h)
      · exact .inl (List.mem_singleton.mp h)
    · exact .inr (List.mem_append_right _ h)
  have hone : one ∈ cutL roll none (some at_) ++ [one] ++ cutL roll (some at_) none := List.mem_append_left _ (List.mem_append_right _ (List.mem_singleton.mpr rfl))
  have hr1l : (cutL roll none (some at_) ++ [one] ++ cutL roll (some at_) none).length = cells.length + 1 := by
    rw [List.length_append, List.length_append, List.length_singleton]
    omega
  generalize cutL roll none (some at_) ++ [one] ++ cutL roll (some at_) none = roll1 at hm hone hr1l
  have hr1 : ∀ o ∈ roll1, 0 ≤ o.1 ∧ (0 ≤ o.2.1 ∧ o.2.1 < r.length) ∧ 0 ≤ o.2.2.2 := fun o ho => by
    rcases hm o ho with rfl | h
    · exact ⟨g1, g2, g4⟩
    · have := (I3 o h).1
      exact ⟨this.2.1, ⟨this.1.1, this.1.2.1⟩, this.2.2⟩
  refine Ok.bi (more_ok (by omega) (roll := roll1) (by omega) (fun o ho => (hr1 o ho).2.1) _) fun roll2 ⟨f1, f2⟩ => ?_
  show Ok ((catM (cutL calls none (some at_)) [call]).bi _) _
  rw [cat_eq (by simp; omega), okb, cat_eq (by rw [List.length_append]; simp; omega), okb]
  have hcc : ∀ c ∈ cutL calls none (some at_) ++ [call] ++ cutL calls (some at_) none, 0 ≤ c := fun c hc => by
    rcases List.mem_append.mp hc with h | h
    · rcases List.mem_append.mp h with h | h
      · exact (I4 c (by rw [← p3]; exact List.mem_append_left _ h)).1
      · rw [List.mem_singleton.mp h]; exact g5
    · exact (I4 c (by rw [← p3]; exact List.mem_append_right _ h)).1
  have hccl : (cutL calls none (some at_) ++ [call] ++ cutL calls (some at_) none).length = cells.length + 1 := by
    rw [List.length_append, List.length_append, List.length_singleton]
    omega
  generalize cutL calls none (some at_) ++ [call] ++ cutL calls (some at_) none = calls1 at hcc hccl
  have hex : ∃ o ∈ roll2, o.2.2.1 ≠ -1 := by
    obtain ⟨i, i0, i1, e⟩ := mem_gx hone
    exact ⟨gx roll2 i, gx_mem i0 (by omega), (f2 i i0 i1).2.2.2 (by rw [e]; exact g3)⟩
  show Ok ((m_law_refused r s roll2 calls1).bi _) _
  rw [refused_ok hex, okb]
  simp only [decide_true, Bool.not_true, Bool.false_eq_true, if_false]
  rw [okb, if_neg (by decide)]
  have hz : ∀ o ∈ roll2.map (fun (y50 : Int × Int × Int × Int) => (y50.1, (y50.2.1, ((-(1 : Int)), y50.2.2.2)))), LicOk r o ∧ 0 ≤ o.1 ∧ 0 ≤ o.2.2.2 := fun o ho => by
    obtain ⟨o1, h1, e⟩ := List.mem_map.mp ho
    obtain ⟨i, i0, i1, e1⟩ := mem_gx h1
    obtain ⟨a, b, c, _⟩ := f2 i i0 (by omega)
    have := hr1 _ (gx_mem (xs := roll1) i0 (by omega))
    rw [← e, ← e1]
    refine ⟨⟨?_, ?_, .inl rfl⟩, ?_, ?_⟩
    · show 0 ≤ (gx roll2 i).2.1
      omega
    · show (gx roll2 i).2.1 < _
      omega
    · show 0 ≤ (gx roll2 i).1
      omega
    · show 0 ≤ (gx roll2 i).2.2.2
      omega
  have hbk : ∀ o ∈ roll2.map (fun (y50 : Int × Int × Int × Int) => (y50.1, (y50.2.1, ((-(1 : Int)), y50.2.2.2)))), o.2.2.1 = -1 := fun o ho => by
    obtain ⟨o1, h1, e⟩ := List.mem_map.mp ho
    rw [← e]
  have hl3 : (roll2.map (fun (y50 : Int × Int × Int × Int) => (y50.1, (y50.2.1, ((-(1 : Int)), y50.2.2.2))))).length = cells.length + 1 := by rw [List.length_map]; omega
  generalize roll2.map (fun (y50 : Int × Int × Int × Int) => (y50.1, (y50.2.1, ((-(1 : Int)), y50.2.2.2)))) = roll3 at hz hbk hl3
  obtain ⟨t, ht, T⟩ := deal_of R (by omega) hsl hs3 hz (by omega) (by omega) hcc
  obtain ⟨C, O, hcut⟩ := cut_of_ok R hl1 hsl hz hbk (by omega) (by omega) ht T
  show Ok ((m_cut_of r s roll3 calls1).bi _) _
  rw [hcut, okb]
  simp only [okb, whole_eq', Bool.not_true, Bool.false_eq_true, if_false, decide_true]
  show Ok ((m_deal r s roll3 calls1).bi _) _
  rw [ht, okb]
  exact decide_eq_true rfl
end Mr

set_option Elab.async false
set_option linter.all false
set_option maxRecDepth 100000
set_option maxHeartbeats 0
set_option synthInstance.maxSize 4000
set_option synthInstance.maxHeartbeats 2000000
namespace Hd
open PySem PySem.Spec PyProof.Rows L2 Wk Mr
def top (i : Nat) : Stmt := PySem.Challenge.pw_sluice_k33_cut_refused.main.body.getD i (.Pass ⟨0, 0, 0, 0⟩)
abbrev s_way_of : Stmt := top 19
abbrev s_tops_first : Stmt := top 20
abbrev s_stretch_of : Stmt := top 21
abbrev s_natural_of : Stmt := top 23
abbrev s_reaches_of : Stmt := top 25
abbrev s_ranked : Stmt := top 26
abbrev s_groups_of : Stmt := top 27
abbrev s_wants_of : Stmt := top 28
abbrev s_ways_through : Stmt := top 30
abbrev s_whole_turns : Stmt := top 31
abbrev s_runs_dry : Stmt := top 32
abbrev s_take_out : Stmt := top 33
abbrev s_one_turn : Stmt := top 34
abbrev s_deal_turns : Stmt := top 35
abbrev s_deal : Stmt := top 37
abbrev s_holds_of : Stmt := top 39
abbrev s_free_of : Stmt := top 40
abbrev s_dry_of : Stmt := top 42
abbrev s_has_any : Stmt := top 43
abbrev s_lowest_of : Stmt := top 44
abbrev s_cut_of : Stmt := top 45
abbrev s__law_cell_at : Stmt := top 47
abbrev s__law_whole : Stmt := top 48
abbrev s__law_draw : Stmt := top 49
abbrev s__law_mixed : Stmt := top 50
abbrev s__law_river : Stmt := top 51
abbrev s__law_springs : Stmt := top 52
abbrev s__law_way : Stmt := top 53
abbrev s__law_drawn : Stmt := top 54
abbrev s__law_giving : Stmt := top 55
abbrev s__law_more : Stmt := top 56
abbrev s__law_other_name : Stmt := top 57
abbrev s__law_refused : Stmt := top 58
abbrev s_law : Stmt := top 59
def fn : List He.DefD := [
  ⟨("way_of", none), "way_of", "way_of", defArgs s_way_of, defBody s_way_of, defScope s_way_of, [], []⟩,
  ⟨("tops_first", none), "tops_first", "tops_first", defArgs s_tops_first, defBody s_tops_first, defScope s_tops_first, [], []⟩,
  ⟨("stretch_of", none), "stretch_of", "stretch_of", defArgs s_stretch_of, defBody s_stretch_of, defScope s_stretch_of, [], []⟩,
  ⟨("natural_of", none), "natural_of", "natural_of", defArgs s_natural_of, defBody s_natural_of, defScope s_natural_of, [], []⟩,
  ⟨("reaches_of", none), "reaches_of", "reaches_of", defArgs s_reaches_of, defBody s_reaches_of, defScope s_reaches_of, [], []⟩,
  ⟨("ranked", none), "ranked", "ranked", defArgs s_ranked, defBody s_ranked, defScope s_ranked, [], []⟩,
  ⟨("groups_of", none), "groups_of", "groups_of", defArgs s_groups_of, defBody s_groups_of, defScope s_groups_of, [], []⟩,
  ⟨("wants_of", none), "wants_of", "wants_of", defArgs s_wants_of, defBody s_wants_of, defScope s_wants_of, [], []⟩,
  ⟨("ways_through", none), "ways_through", "ways_through", defArgs s_ways_through, defBody s_ways_through, defScope s_ways_through, [], []⟩,
  ⟨("whole_turns", none), "whole_turns", "whole_turns", defArgs s_whole_turns, defBody s_whole_turns, defScope s_whole_turns, [], []⟩,
  ⟨("runs_dry", none), "runs_dry", "runs_dry", defArgs s_runs_dry, defBody s_runs_dry, defScope s_runs_dry, [], []⟩,
  ⟨("take_out", none), "take_out", "take_out", defArgs s_take_out, defBody s_take_out, defScope s_take_out, [], []⟩,
  ⟨("one_turn", none), "one_turn", "one_turn", defArgs s_one_turn, defBody s_one_turn, defScope s_one_turn, [], []⟩,
  ⟨("deal_turns", none), "deal_turns", "deal_turns", defArgs s_deal_turns, defBody s_deal_turns, defScope s_deal_turns, [], []⟩,
  ⟨("deal", none), "deal", "deal", defArgs s_deal, defBody s_deal, defScope s_deal, [], []⟩,
  ⟨("holds_of", none), "holds_of", "holds_of", defArgs s_holds_of, defBody s_holds_of, defScope s_holds_of, [], []⟩,
  ⟨("free_of", none), "free_of", "free_of", defArgs s_free_of, defBody s_free_of, defScope s_free_of, [], []⟩,
  ⟨("dry_of", none), "dry_of", "dry_of", defArgs s_dry_of, defBody s_dry_of, defScope s_dry_of, [], []⟩,
  ⟨("has_any", none), "has_any", "has_any", defArgs s_has_any, defBody s_has_any, defScope s_has_any, [], []⟩,
  ⟨("lowest_of", none), "lowest_of", "lowest_of", defArgs s_lowest_of, defBody s_lowest_of, defScope s_lowest_of, [], []⟩,
  ⟨("cut_of", none), "cut_of", "cut_of", defArgs s_cut_of, defBody s_cut_of, defScope s_cut_of, [], []⟩,
  ⟨("_law_cell_at", none), "_law_cell_at", "_law_cell_at", defArgs s__law_cell_at, defBody s__law_cell_at, defScope s__law_cell_at, [], []⟩,
  ⟨("_law_whole", none), "_law_whole", "_law_whole", defArgs s__law_whole, defBody s__law_whole, defScope s__law_whole, [], []⟩,
  ⟨("_law_draw", none), "_law_draw", "_law_draw", defArgs s__law_draw, defBody s__law_draw, defScope s__law_draw, [], []⟩,
  ⟨("_law_mixed", none), "_law_mixed", "_law_mixed", defArgs s__law_mixed, defBody s__law_mixed, defScope s__law_mixed, [], []⟩,
  ⟨("_law_river", none), "_law_river", "_law_river", defArgs s__law_river, defBody s__law_river, defScope s__law_river, [], []⟩,
  ⟨("_law_springs", none), "_law_springs", "_law_springs", defArgs s__law_springs, defBody s__law_springs, defScope s__law_springs, [], []⟩,
  ⟨("_law_way", none), "_law_way", "_law_way", defArgs s__law_way, defBody s__law_way, defScope s__law_way, [], []⟩,
  ⟨("_law_drawn", none), "_law_drawn", "_law_drawn", defArgs s__law_drawn, defBody s__law_drawn, defScope s__law_drawn, [], []⟩,
  ⟨("_law_giving", none), "_law_giving", "_law_giving", defArgs s__law_giving, defBody s__law_giving, defScope s__law_giving, [], []⟩,
  ⟨("_law_more", none), "_law_more", "_law_more", defArgs s__law_more, defBody s__law_more, defScope s__law_more, [], []⟩,
  ⟨("_law_other_name", none), "_law_other_name", "_law_other_name", defArgs s__law_other_name, defBody s__law_other_name, defScope s__law_other_name, [], []⟩,
  ⟨("_law_refused", none), "_law_refused", "_law_refused", defArgs s__law_refused, defBody s__law_refused, defScope s__law_refused, [], []⟩,
  ⟨("law", none), "law", "law", defArgs s_law, defBody s_law, defScope s_law, [], []⟩]
def fa : List He.Fa := [.glo "way_of", .glo "tops_first", .glo "stretch_of", .glo "natural_of", .glo "reaches_of", .glo "ranked", .glo "groups_of", .glo "wants_of", .glo "ways_through", .glo "whole_turns", .glo "runs_dry", .glo "take_out", .glo "one_turn", .glo "deal_turns", .glo "deal", .glo "holds_of", .glo "free_of", .glo "dry_of", .glo "has_any", .glo "lowest_of", .glo "cut_of", .glo "_law_cell_at", .glo "_law_whole", .glo "_law_draw", .glo "_law_mixed", .glo "_law_river", .glo "_law_springs", .glo "_law_way", .glo "_law_drawn", .glo "_law_giving", .glo "_law_more", .glo "_law_other_name", .glo "_law_refused", .glo "law", .glo "SluiceError", .exc "SluiceError", .glo "NoRiver", .exc "NoRiver", .glo "NoReach", .exc "NoReach", .glo "NoLicence", .exc "NoLicence", .glo "NoNumber", .exc "NoNumber", .glo "NoHolder", .exc "NoHolder", .glo "NotYours", .exc "NotYours", .glo "NotAlone", .exc "NotAlone", .glo "TooMuch", .exc "TooMuch", .glo "Full", .exc "Full", .glo "NoPaper", .exc "NoPaper", .glo "NoCut", .exc "NoCut", .glo "NoPond", .exc "NoPond", .glo "NoDay", .exc "NoDay", .glo "Fixed", .exc "Fixed", .glo "Harms", .exc "Harms", .glo "NoRow", .exc "NoRow", .free "ValueError", .free "bool", .free "enumerate", .free "int", .free "isinstance", .free "len", .free "list", .free "min", .free "range", .free "set", .free "sorted", .free "sum", .free "tuple", .free "zip"]
def loose : List PySem.Str := (["way_of", "tops_first", "stretch_of", "natural_of", "reaches_of", "ranked", "groups_of", "wants_of", "ways_through", "whole_turns", "runs_dry", "take_out", "one_turn", "deal_turns", "deal", "holds_of", "free_of", "dry_of", "has_any", "lowest_of", "cut_of", "_law_cell_at", "_law_whole", "_law_draw", "_law_mixed", "_law_river", "_law_springs", "_law_way", "_law_drawn", "_law_giving"] : List PySem.Str) ++ (["_law_more", "_law_other_name", "_law_refused", "SluiceError", "NoRiver", "NoReach", "NoLicence", "NoNumber", "NoHolder", "NotYours", "NotAlone", "TooMuch", "Full", "NoPaper", "NoCut", "NoPond", "NoDay", "Fixed", "Harms", "NoRow"] : List PySem.Str)
abbrev RR : PySem.W.OpenRow := PySem.W.OpenLaw.row PySem.Challenge.rw_sluice_k33_cut_refused
def exf (K : Wk.Frag) : Bool := Wk.xfB K Mr.exN Mr.exT
abbrev hk : PySem.W.Hook := Wk.hookX 5 fa fn exf
def ob (s : PySem.W.SharedT) : Wk.AlX := Wk.obsXG 5 fa fn exf (HandSHeadRun.getT s)
theorem ob_eq (s : PySem.W.SharedT) : ob s = hk.obs s.abs := Wk.obsXG_eq (HandSHeadRun.getT_eq s)
theorem run (w : World) : HandSHeadRun.RunEq RR (PySem.W.view RR.prog [59]) hk ob 17400 loose w := by
  intro os
  kernel_rfl
/-- what the top has left -/
def Fx (K : Frag) (mg : Str → Option Value) : Prop := ∃ h : Heap, K.In h ∧ h.Ns mainGlobals mg ∧ He.SaysD fa fn K ∧ exf K = true
section
variable {K : Frag} {mg : Str → Option Value}
theorem Fx.glo (T : Fx K mg) (i : Nat) {x : Str} (h : fa[i]? = some (.glo x) := by rfl) : mg x = some (.ref (He.ga K x)) := let ⟨_, X, G, c, _⟩ := T; He.glo_ok X G (c.fact i h)
theorem Fx.free (T : Fx K mg) (i : Nat) {x : Str} (h : fa[i]? = some (.free x) := by rfl) : mg x = none := let ⟨_, X, G, c, _⟩ := T; He.free_ok X G (c.fact i h)
theorem Fx.int (T : Fx K mg) (i : Nat) {x : Str} {n : Int} (h : fa[i]? = some (.int x n) := by rfl) : ∃ t, mg x = some (.int n t) := let ⟨_, X, G, c, _⟩ := T; He.int_ok X G (c.fact i h)
theorem Fx.str (T : Fx K mg) (i : Nat) {x z : Str} (h : fa[i]? = some (.str x z) := by rfl) : ∃ t, mg x = some (.str z t) := let ⟨_, X, G, c, _⟩ := T; He.str_ok X G (c.fact i h)
theorem Fx.exc (T : Fx K mg) (i j : Nat) {x : Str} (h : fa[i]? = some (.glo x) := by rfl) (h2 : fa[j]? = some (.exc x) := by rfl) : ExF K mg x := by
  obtain ⟨_, X, G, c, _⟩ := T
  obtain ⟨e1, e2, e3, e4⟩ := He.exc_ok (c.fact j h2)
  exact ⟨He.ga K x, He.glo_ok X G (c.fact i h), e1, e2, e3, e4⟩
theorem Fx.def_ (T : Fx K mg) (i : Nat) {d : He.DefD} (h : fn[i]? = some d := by rfl) : ∃ fd, FunD K d.name d.qual d.params d.body d.scope (d.dvs K) (d.kws K) (He.fAd K d.at_) fd := let ⟨_, _, _, c, _⟩ := T; c.def_ i h
theorem Fx.xf (T : Fx K mg) : Wk.XF K mg Mr.exN Mr.exT := let ⟨_, X, G, _, c⟩ := T; Wk.xfB_ok X G c
end
def N_way_of : List PySem.Str := ["below", "reach", "way"]
theorem sc_way_of : FnScope N_way_of ["below", "reach"] (defScope s_way_of) := ⟨rfl, rfl, rfl, by decide +kernel, rfl, by decide +kernel, by decide +kernel⟩
theorem c_way_of {P : Program} {w : World} {K : Frag} {mg : Str → Option Value} {base : Heap} (T : Fx K mg) : Cal P w K mg base "way_of" 1 (spF mg (arL eI (arV eI (ar0 (K := K)))) (fun g => m_way_of g.1 g.2.1) (rtN (eI (K := K)))) := by
  obtain ⟨fd, F⟩ : ∃ fd, FunD K "way_of" "way_of" (defArgs s_way_of) (defBody s_way_of) (defScope s_way_of) [] [] (He.ga K "way_of") fd := T.def_ 0
  refine cal_mk F (fn_ok F sc_way_of (fun g => rfl) ?_) (T.glo 0) (fun _ _ _ _ _ _ us hl => match us, hl with | [_, _], _ => rfl)
  intro cdv Ao outer s H E Z Qr D g am hR hN
  obtain ⟨below, reach, _⟩ := g
  change BJ _ Z Qr D ⟨[.bor eI below, .val eI reach, .any], []⟩ (defBody s_way_of) (m_way_of below reach)
  refine bj_own (i := 2) am (fj_lst (en := eI) ij_nil) (fun way_1 => ?_)
  change BJ _ _ _ _ ⟨[.bor eI below, .val eI reach, .own 0], [.lst none eI way_1]⟩ _ _
  refine bj_whiles (S := Int × (List Int)) (sps := fun (s2 : Int × (List Int)) => ⟨[.bor eI below, .val eI s2.1, .own 0], [.lst none eI s2.2]⟩) am fuel ((reach, way_1)) (le_mk (ks := [0]) (.cons .bor (.cons .val (.cons (.own rfl) .nil))) (.keep rfl (.nil))) (fun s2 => (tj_cmp (cj_ne_p scI (ej_var (i := 1)) (ej_neg_p ej_int)))) (fun s2 Q6 D7 hN3 => ?_) (fun s2 => ?_)
  · change BJ _ _ _ _ ⟨[.bor eI below, .val eI s2.1, .own 0], [.lst none eI s2.2]⟩ _ _
    refine bj_append_p (i := 2) (o := 0) rfl rfl (ej_var (i := 1)) (fun way_4 => ?_)
    change BJ _ _ _ _ ⟨[.bor eI below, .val eI s2.1, .own 0], [.lst none eI way_4]⟩ _ _
    refine bj_asg (i := 1) am (ej_ix_p (lj_bor (i := 0)) (ej_var (i := 1))) (fun reach_5 => ?_)
    change BJ _ _ _ _ ⟨[.bor eI below, .val eI reach_5, .own 0], [.lst none eI way_4]⟩ _ _
    exact bj_weak (le_mk (ks := [0]) (.cons .bor (.cons .val (.cons (.own rfl) .nil))) (.keep rfl (.nil))) (bj_nil hN3 ((reach_5, way_4)))
  · change BJ _ _ _ _ ⟨[.bor eI below, .val eI s2.1, .own 0], [.lst none eI s2.2]⟩ _ _
    exact bj_retO (i := 2) (k := 0) hR
def N_ranked : List PySem.Str := ["roll", "order", "number", "one", "day"]
theorem sc_ranked : FnScope N_ranked ["roll"] (defScope s_ranked) := ⟨rfl, rfl, rfl, by decide +kernel, rfl, by decide +kernel, by decide +kernel⟩
theorem c_ranked {P : Program} {w : World} {K : Frag} {mg : Str → Option Value} {base : Heap} (T : Fx K mg) : Cal P w K mg base "ranked" 1 (spF mg (arL (eT (vsC eI (vsC eI (vsC eI (vs1 eI))))) (ar0 (K := K))) (fun g => m_ranked g.1) (rtN (eI (K := K)))) := by
  obtain ⟨fd, F⟩ : ∃ fd, FunD K "ranked" "ranked" (defArgs s_ranked) (defBody s_ranked) (defScope s_ranked) [] [] (He.ga K "ranked") fd := T.def_ 5
  have b_enumerate : mg "enumerate" = none := T.free 70
  have b_sorted : mg "sorted" = none := T.free 78
  refine cal_mk F (fn_ok F sc_ranked (fun g => rfl) ?_) (T.glo 5) (fun _ _ _ _ _ _ us hl => match us, hl with | [_], _ => rfl)
  intro cdv Ao outer s H E Z Qr D g am hR hN
  obtain ⟨roll, _⟩ := g
  change BJ _ Z Qr D ⟨[.bor (eT (vsC eI (vsC eI (vsC eI (vs1 eI))))) roll, .any, .any, .any, .any], []⟩ (defBody s_ranked) (m_ranked roll)
  refine bj_asg (i := 1) am (ej_fj (fj_sortedP_p b_sorted (lj_fj (fj_lc_pp (bd := fun (y1 : Int × (Int × Int × Int × Int)) sl => ((sl.set 2 (.val eI y1.1)).set 3 (.val (eT (vsC eI (vsC eI (vsC eI (vs1 eI))))) y1.2))) (en := (eT (vsC eI (vs1 (eT (vsC eI (vsC eI (vsC eI (vs1 eI))))))))) (en' := (eT (vsC eI (vs1 eI)))) (own := [("number", 2), ("one", 3)]) (is := [2, 3]) am (blkOk_by (N := N_ranked) (sc := defScope s_ranked) (by decide +kernel)) (by exact (sj_enum_p b_enumerate (kj_bor (i := 0)))) (by exact fun s1 H1 C1 cl1 fp1 => (gj_tup (am.blk s1 H1 C1 cl1 fp1).calm (gsj_cons (gj_name (i := 2) (am.blk s1 H1 C1 cl1 fp1).nd) (gsj_one (gj_name (i := 3) (am.blk s1 H1 C1 cl1 fp1).nd))) (lenC len1))) (by exact fun y1 s1 H1 C1 cl1 fp1 => (ej_tup (vj_cons_p (ej_tix_p 0 (f := fun (g : Int × Int × Int × Int) => g.1) (ej_var (i := 3)) vat0) (vj_one (ej_var (i := 2)))))))))) (fun order_2 => ?_)
  change BJ _ _ _ _ ⟨[.bor (eT (vsC eI (vsC eI (vsC eI (vs1 eI))))) roll, .val (eL (eT (vsC eI (vs1 eI)))) order_2, .any, .any, .any], []⟩ _ _
  exact bj_retF hR (fj_lc_pp (bd := fun (y3 : Int × Int) sl => ((sl.set 4 (.val eI y3.1)).set 2 (.val eI y3.2))) (en := (eT (vsC eI (vs1 eI)))) (en' := eI) (own := [("day", 4), ("number", 2)]) (is := [4, 2]) am (blkOk_by (N := N_ranked) (sc := defScope s_ranked) (by decide +kernel)) (by exact (sj_list (kj_ej (ej_var (i := 1))))) (by exact fun s1 H1 C1 cl1 fp1 => (gj_tup (am.blk s1 H1 C1 cl1 fp1).calm (gsj_cons (gj_name (i := 4) (am.blk s1 H1 C1 cl1 fp1).nd) (gsj_one (gj_name (i := 2) (am.blk s1 H1 C1 cl1 fp1).nd))) (lenC len1))) (by exact fun y3 s1 H1 C1 cl1 fp1 => (ej_var (i := 2))))
def N_wants_of : List PySem.Str := ["roll", "calls", "one", "call"]
theorem sc_wants_of : FnScope N_wants_of ["roll", "calls"] (defScope s_wants_of) := ⟨rfl, rfl, rfl, by decide +kernel, rfl, by decide +kernel, by decide +kernel⟩
theorem c_wants_of {P : Program} {w : World} {K : Frag} {mg : Str → Option Value} {base : Heap} (T : Fx K mg) : Cal P w K mg base "wants_of" 1 (spF mg (arL (eT (vsC eI (vsC eI (vsC eI (vs1 eI))))) (arL eI (ar0 (K := K)))) (fun g => m_wants_of g.1 g.2.1) (rtN (eI (K := K)))) := by
  obtain ⟨fd, F⟩ : ∃ fd, FunD K "wants_of" "wants_of" (defArgs s_wants_of) (defBody s_wants_of) (defScope s_wants_of) [] [] (He.ga K "wants_of") fd := T.def_ 7
  have b_min : mg "min" = none := T.free 75
  have b_zip : mg "zip" = none := T.free 81
  refine cal_mk F (fn_ok F sc_wants_of (fun g => rfl) ?_) (T.glo 7) (fun _ _ _ _ _ _ us hl => match us, hl with | [_, _], _ => rfl)
  intro cdv Ao outer s H E Z Qr D g am hR hN
  obtain ⟨roll, calls, _⟩ := g
  change BJ _ Z Qr D ⟨[.bor (eT (vsC eI (vsC eI (vsC eI (vs1 eI))))) roll, .bor eI calls, .any, .any], []⟩ (defBody s_wants_of) (m_wants_of roll calls)
  exact bj_retF hR (fj_lc_pp (bd := fun (y1 : (Int × Int × Int × Int) × Int) sl => ((sl.set 2 (.val (eT (vsC eI (vsC eI (vsC eI (vs1 eI))))) y1.1)).set 3 (.val eI y1.2))) (en := (eT (vsC (eT (vsC eI (vsC eI (vsC eI (vs1 eI))))) (vs1 eI)))) (en' := eI) (own := [("one", 2), ("call", 3)]) (is := [2, 3]) am (blkOk_by (N := N_wants_of) (sc := defScope s_wants_of) (by decide +kernel)) (by exact (sj_zip_p b_zip (kj_bor (i := 0)) (kj_bor (i := 1)))) (by exact fun s1 H1 C1 cl1 fp1 => (gj_tup (am.blk s1 H1 C1 cl1 fp1).calm (gsj_cons (gj_name (i := 2) (am.blk s1 H1 C1 cl1 fp1).nd) (gsj_one (gj_name (i := 3) (am.blk s1 H1 C1 cl1 fp1).nd))) (lenC len1))) (by exact fun y1 s1 H1 C1 cl1 fp1 => (ej_min2_p b_min (ej_tix_p 3 (f := fun (g : Int × Int × Int × Int) => g.2.2.2) (ej_var (i := 2)) (vatS (vatS (vatS vat1)))) (ej_var (i := 3)))))
def N_ways_through : List PySem.Str := ["size", "ways", "through", "way", "reach"]
theorem sc_ways_through : FnScope N_ways_through ["size", "ways"] (defScope s_ways_through) := ⟨rfl, rfl, rfl, by decide +kernel, rfl, by decide +kernel, by decide +kernel⟩
theorem c_ways_through {P : Program} {w : World} {K : Frag} {mg : Str → Option Value} {base : Heap} (T : Fx K mg) : Cal P w K mg base "ways_through" 1 (spF mg (arV eI (arL (eL eI) (ar0 (K := K)))) (fun g => m_ways_through g.1 g.2.1) (rtN (eI (K := K)))) := by
  obtain ⟨fd, F⟩ : ∃ fd, FunD K "ways_through" "ways_through" (defArgs s_ways_through) (defBody s_ways_through) (defScope s_ways_through) [] [] (He.ga K "ways_through") fd := T.def_ 8
  refine cal_mk F (fn_ok F sc_ways_through (fun g => rfl) ?_) (T.glo 8) (fun _ _ _ _ _ _ us hl => match us, hl with | [_, _], _ => rfl)
  intro cdv Ao outer s H E Z Qr D g am hR hN
  obtain ⟨size, ways, _⟩ := g
  change BJ _ Z Qr D ⟨[.val eI size, .bor (eL eI) ways, .any, .any, .any], []⟩ (defBody s_ways_through) (m_ways_through size ways)
  refine bj_own (i := 2) am (fj_rep_p (mj_fj (fj_lst (en := eI) (ij_cons_p ej_int ij_nil))) (ej_var (i := 0))) (fun through_1 => ?_)
  change BJ _ _ _ _ ⟨[.val eI size, .bor (eL eI) ways, .own 0, .any, .any], [.lst none eI through_1]⟩ _ _
  refine bj_fors_p (S := (List Int)) (is := [3]) (sps := fun (s2 : (List Int)) => ⟨[.val eI size, .bor (eL eI) ways, .own 0, .any, .any], [.lst none eI s2]⟩) am through_1 (sj_list (kj_bor (i := 1))) (gj_name (i := 3) am.nd) (le_mk (ks := [0]) (.cons .val (.cons .bor (.cons (.own rfl) (.cons .any (.cons .any .nil))))) (.keep rfl (.nil))) (fun Z zx y3 s2 Q13 D14 hN4 => ?_) (fun s2 => ?_)
  · have am := am.zx zx
    change BJ _ _ _ _ ⟨[.val eI size, .bor (eL eI) ways, .own 0, .val (eL eI) y3, .any], [.lst none eI s2]⟩ _ _
    refine bj_fors_p (S := (List Int)) (is := [4]) (sps := fun (s6 : (List Int)) => ⟨[.val eI size, .bor (eL eI) ways, .own 0, .val (eL eI) y3, .any], [.lst none eI s6]⟩) am s2 (sj_list (kj_ej (ej_var (i := 3)))) (gj_name (i := 4) am.nd) (le_mk (ks := [0]) (.cons .val (.cons .bor (.cons (.own rfl) (.cons .val (.cons .any .nil))))) (.keep rfl (.nil))) (fun Z zx y7 s6 Q11 D12 hN8 => ?_) (fun s6 => ?_)
    · have am := am.zx zx
      change BJ _ _ _ _ ⟨[.val eI size, .bor (eL eI) ways, .own 0, .val (eL eI) y3, .val eI y7], [.lst none eI s6]⟩ _ _
      refine bj_augi_p (i := 2) (o := 0) (f := fun i j => i + j) ip_add rfl rfl (ej_var (i := 4)) ej_int (fun through_10 => ?_)
      change BJ _ _ _ _ ⟨[.val eI size, .bor (eL eI) ways, .own 0, .val (eL eI) y3, .val eI y7], [.lst none eI through_10]⟩ _ _
      exact bj_weak (le_mk (ks := [0]) (.cons .val (.cons .bor (.cons (.own rfl) (.cons .val (.cons .any .nil))))) (.keep rfl (.nil))) (bj_nil hN8 through_10)
    · change BJ _ _ _ _ ⟨[.val eI size, .bor (eL eI) ways, .own 0, .val (eL eI) y3, .any], [.lst none eI s6]⟩ _ _
      exact bj_weak (le_mk (ks := [0]) (.cons .val (.cons .bor (.cons (.own rfl) (.cons .any (.cons .any .nil))))) (.keep rfl (.nil))) (bj_nil hN4 s6)
  · change BJ _ _ _ _ ⟨[.val eI size, .bor (eL eI) ways, .own 0, .any, .any], [.lst none eI s2]⟩ _ _
    exact bj_retO (i := 2) (k := 0) hR
def N_runs_dry : List PySem.Str := ["left", "way", "reach"]
theorem sc_runs_dry : FnScope N_runs_dry ["left", "way"] (defScope s_runs_dry) := ⟨rfl, rfl, rfl, by decide +kernel, rfl, by decide +kernel, by decide +kernel⟩
theorem c_runs_dry {P : Program} {w : World} {K : Frag} {mg : Str → Option Value} {base : Heap} (T : Fx K mg) : Cal P w K mg base "runs_dry" 1 (spF mg (arL eI (arL eI (ar0 (K := K)))) (fun g => m_runs_dry g.1 g.2.1) (rtV (eB (K := K)))) := by
  obtain ⟨fd, F⟩ : ∃ fd, FunD K "runs_dry" "runs_dry" (defArgs s_runs_dry) (defBody s_runs_dry) (defScope s_runs_dry) [] [] (He.ga K "runs_dry") fd := T.def_ 10
  refine cal_mk F (fn_ok F sc_runs_dry (fun g => rfl) ?_) (T.glo 10) (fun _ _ _ _ _ _ us hl => match us, hl with | [_, _], _ => rfl)
  intro cdv Ao outer s H E Z Qr D g am hR hN
  obtain ⟨left, way, _⟩ := g
  change BJ _ Z Qr D ⟨[.bor eI left, .bor eI way, .any], []⟩ (defBody s_runs_dry) (m_runs_dry left way)
  refine bj_for_p (S := Unit) (is := [2]) (sps := fun (s1 : Unit) => ⟨[.bor eI left, .bor eI way, .any], []⟩) am (()) (sj_list (kj_bor (i := 1))) (gj_name (i := 2) am.nd) (le_mk (ks := []) (.cons .bor (.cons .bor (.cons .any .nil))) (.nil)) (fun Z zx y2 s1 next5 nx bk hN3 hB4 => ?_) (fun s1 => ?_)
  · have am := am.zx zx
    have hR := hR.zx zx
    change BJ _ _ _ _ ⟨[.bor eI left, .bor eI way, .val eI y2], []⟩ _ _
    refine bj_ifr (tj_cmp (cj_eq scI (ej_ix_p (lj_bor (i := 0)) (ej_var (i := 2))) ej_int)) (fun n8 => ?_) ?_
    · change BJ _ _ _ _ ⟨[.bor eI left, .bor eI way, .val eI y2], []⟩ _ _
      exact bj_ret hR ej_bl
    · change BJ _ _ _ _ ⟨[.bor eI left, .bor eI way, .val eI y2], []⟩ _ _
      exact bj_weak (le_mk (ks := []) (.cons .bor (.cons .bor (.cons .any .nil))) (.nil)) (bj_nil hN3 (()))
  · change BJ _ _ _ _ ⟨[.bor eI left, .bor eI way, .any], []⟩ _ _
    exact bj_ret hR ej_bl
def N_take_out : List PySem.Str := ["left", "way", "amount", "reach"]
theorem sc_take_out : FnScope N_take_out ["left", "way", "amount"] (defScope s_take_out) := ⟨rfl, rfl, rfl, by decide +kernel, rfl, by decide +kernel, by decide +kernel⟩
theorem c_take_out {P : Program} {w : World} {K : Frag} {mg : Str → Option Value} {base : Heap} (T : Fx K mg) : Cal P w K mg base "take_out" 1 (spM mg (amM true eI (amL eI (amV eI (am0 (K := K))))) (fun g => m_take_out g.1 g.2.1 g.2.2.1) (rmV (eU (K := K)) (obs1 (eI (K := K))))) := by
  obtain ⟨fd, F⟩ : ∃ fd, FunD K "take_out" "take_out" (defArgs s_take_out) (defBody s_take_out) (defScope s_take_out) [] [] (He.ga K "take_out") fd := T.def_ 11
  refine cal_mk F (fn_okM F sc_take_out (fun g => rfl) ?_) (T.glo 11) (fun _ _ _ _ _ _ us hl => match us, hl with | [_, _, _], _ => rfl)
  intro cdv Ao outer s H E Z Qr D g ad hl am hR hN
  obtain ⟨left, way, amount, _⟩ := g
  obtain ⟨p_left, rfl⟩ := ad1 hl
  change BJ _ Z Qr D ⟨[.own 0, .bor eI way, .val eI amount, .any], [.lst (some p_left) eI left]⟩ (defBody s_take_out) (m_take_out left way amount)
  refine bj_fors_p (S := (List Int)) (is := [3]) (sps := fun (s1 : (List Int)) => ⟨[.own 0, .bor eI way, .val eI amount, .any], [.lst (some p_left) eI s1]⟩) am left (sj_list (kj_bor (i := 1))) (gj_name (i := 3) am.nd) (le_mk (ks := [0]) (.cons (.own rfl) (.cons .bor (.cons .val (.cons .any .nil)))) (.keep rfl (.nil))) (fun Z zx y2 s1 Q6 D7 hN3 => ?_) (fun s1 => ?_)
  · have am := am.zx zx
    change BJ _ _ _ _ ⟨[.own 0, .bor eI way, .val eI amount, .val eI y2], [.lst (some p_left) eI s1]⟩ _ _
    refine bj_augi_p (i := 0) (o := 0) (f := fun i j => i - j) ip_sub rfl rfl (ej_var (i := 3)) (ej_var (i := 2)) (fun left_5 => ?_)
    change BJ _ _ _ _ ⟨[.own 0, .bor eI way, .val eI amount, .val eI y2], [.lst (some p_left) eI left_5]⟩ _ _
    exact bj_weak (le_mk (ks := [0]) (.cons (.own rfl) (.cons .bor (.cons .val (.cons .any .nil)))) (.keep rfl (.nil))) (bj_nil hN3 left_5)
  · change BJ _ _ _ _ ⟨[.own 0, .bor eI way, .val eI amount, .any], [.lst (some p_left) eI s1]⟩ _ _
    exact bj_endM s1 hR hN (LeO.keep (k := 0) rfl .nil)
def N_has_any : List PySem.Str := ["way", "reaches", "reach"]
theorem sc_has_any : FnScope N_has_any ["way", "reaches"] (defScope s_has_any) := ⟨rfl, rfl, rfl, by decide +kernel, rfl, by decide +kernel, by decide +kernel⟩
theorem c_has_any {P : Program} {w : World} {K : Frag} {mg : Str → Option Value} {base : Heap} (T : Fx K mg) : Cal P w K mg base "has_any" 1 (spF mg (arL eI (arL eI (ar0 (K := K)))) (fun g => m_has_any g.1 g.2.1) (rtV (eB (K := K)))) := by
  obtain ⟨fd, F⟩ : ∃ fd, FunD K "has_any" "has_any" (defArgs s_has_any) (defBody s_has_any) (defScope s_has_any) [] [] (He.ga K "has_any") fd := T.def_ 18
  refine cal_mk F (fn_ok F sc_has_any (fun g => rfl) ?_) (T.glo 18) (fun _ _ _ _ _ _ us hl => match us, hl with | [_, _], _ => rfl)
  intro cdv Ao outer s H E Z Qr D g am hR hN
  obtain ⟨way, reaches, _⟩ := g
  change BJ _ Z Qr D ⟨[.bor eI way, .bor eI reaches, .any], []⟩ (defBody s_has_any) (m_has_any way reaches)
  refine bj_for_p (S := Unit) (is := [2]) (sps := fun (s1 : Unit) => ⟨[.bor eI way, .bor eI reaches, .any], []⟩) am (()) (sj_list (kj_bor (i := 0))) (gj_name (i := 2) am.nd) (le_mk (ks := []) (.cons .bor (.cons .bor (.cons .any .nil))) (.nil)) (fun Z zx y2 s1 next5 nx bk hN3 hB4 => ?_) (fun s1 => ?_)
  · have am := am.zx zx
    have hR := hR.zx zx
    change BJ _ _ _ _ ⟨[.bor eI way, .bor eI reaches, .val eI y2], []⟩ _ _
    refine bj_ifr_p (tj_cmp (cj_in_p flI (ej_var (i := 2)) (lj_bor (i := 1)))) (fun n6 => ?_) ?_
    · change BJ _ _ _ _ ⟨[.bor eI way, .bor eI reaches, .val eI y2], []⟩ _ _
      exact bj_ret hR ej_bl
    · change BJ _ _ _ _ ⟨[.bor eI way, .bor eI reaches, .val eI y2], []⟩ _ _
      exact bj_weak (le_mk (ks := []) (.cons .bor (.cons .bor (.cons .any .nil))) (.nil)) (bj_nil hN3 (()))
  · change BJ _ _ _ _ ⟨[.bor eI way, .bor eI reaches, .any], []⟩ _ _
    exact bj_ret hR ej_bl
def N__law_cell_at : List PySem.Str := ["script", "k"]
theorem sc__law_cell_at : FnScope N__law_cell_at ["script", "k"] (defScope s__law_cell_at) := ⟨rfl, rfl, rfl, by decide +kernel, rfl, by decide +kernel, by decide +kernel⟩
theorem c__law_cell_at {P : Program} {w : World} {K : Frag} {mg : Str → Option Value} {base : Heap} (T : Fx K mg) : Cal P w K mg base "_law_cell_at" 1 (spF mg (arL eI (arV eI (ar0 (K := K)))) (fun g => m_law_cell_at g.1 g.2.1) (rtV (eI (K := K)))) := by
  obtain ⟨fd, F⟩ : ∃ fd, FunD K "_law_cell_at" "_law_cell_at" (defArgs s__law_cell_at) (defBody s__law_cell_at) (defScope s__law_cell_at) [] [] (He.ga K "_law_cell_at") fd := T.def_ 21
  have b_len : mg "len" = none := T.free 73
  refine cal_mk F (fn_ok F sc__law_cell_at (fun g => rfl) ?_) (T.glo 21) (fun _ _ _ _ _ _ us hl => match us, hl with | [_, _], _ => rfl)
  intro cdv Ao outer s H E Z Qr D g am hR hN
  obtain ⟨script, k, _⟩ := g
  change BJ _ Z Qr D ⟨[.bor eI script, .val eI k], []⟩ (defBody s__law_cell_at) (m_law_cell_at script k)
  refine bj_ifr_p (tj_cmp (cj_lt_p (ej_var (i := 1)) (ej_len_p b_len (lj_bor (i := 0))))) (fun n1 => ?_) ?_
  · change BJ _ _ _ _ ⟨[.bor eI script, .val eI k], []⟩ _ _
    exact bj_ret hR (ej_ix_p (lj_bor (i := 0)) (ej_var (i := 1)))
  · change BJ _ _ _ _ ⟨[.bor eI script, .val eI k], []⟩ _ _
    exact bj_ret hR ej_int
def N__law_whole : List PySem.Str := ["found"]
theorem sc__law_whole : FnScope N__law_whole ["found"] (defScope s__law_whole) := ⟨rfl, rfl, rfl, by decide +kernel, rfl, by decide +kernel, by decide +kernel⟩
theorem c__law_whole {P : Program} {w : World} {K : Frag} {mg : Str → Option Value} {base : Heap} (T : Fx K mg) : Cal P w K mg base "_law_whole" 1 (spF mg (arV eI (ar0 (K := K))) (fun g => m_law_whole g.1) (rtV (eB (K := K)))) := by
  obtain ⟨fd, F⟩ : ∃ fd, FunD K "_law_whole" "_law_whole" (defArgs s__law_whole) (defBody s__law_whole) (defScope s__law_whole) [] [] (He.ga K "_law_whole") fd := T.def_ 22
  have b_bool : mg "bool" = none := T.free 69
  have b_int : mg "int" = none := T.free 71
  have b_isinstance : mg "isinstance" = none := T.free 72
  refine cal_mk F (fn_ok F sc__law_whole (fun g => rfl) ?_) (T.glo 22) (fun _ _ _ _ _ _ us hl => match us, hl with | [_], _ => rfl)
  intro cdv Ao outer s H E Z Qr D g am hR hN
  obtain ⟨found, _⟩ := g
  change BJ _ Z Qr D ⟨[.val eI found], []⟩ (defBody s__law_whole) (m_law_whole found)
  exact bj_ret hR (ej_and_p (ej_isi_p tyI b_isinstance b_int boot_int (by decide +kernel) (ej_var (i := 0))) (ej_one (ej_not_p (ej_isi_p tyI b_isinstance b_bool boot_bool (by decide +kernel) (ej_var (i := 0))))))
def N__law_draw : List PySem.Str := ["cell", "k", "seed", "turned"]
theorem sc__law_draw : FnScope N__law_draw ["cell", "k"] (defScope s__law_draw) := ⟨rfl, rfl, rfl, by decide +kernel, rfl, by decide +kernel, by decide +kernel⟩
theorem c__law_draw {P : Program} {w : World} {K : Frag} {mg : Str → Option Value} {base : Heap} (T : Fx K mg) : Cal P w K mg base "_law_draw" 1 (spF mg (arV eI (arV eI (ar0 (K := K)))) (fun g => m_law_draw g.1 g.2.1) (rtV (eI (K := K)))) := by
  obtain ⟨fd, F⟩ : ∃ fd, FunD K "_law_draw" "_law_draw" (defArgs s__law_draw) (defBody s__law_draw) (defScope s__law_draw) [] [] (He.ga K "_law_draw") fd := T.def_ 23
  refine cal_mk F (fn_ok F sc__law_draw (fun g => rfl) ?_) (T.glo 23) (fun _ _ _ _ _ _ us hl => match us, hl with | [_, _], _ => rfl)
  intro cdv Ao outer s H E Z Qr D g am hR hN
  obtain ⟨cell, k, _⟩ := g
  change BJ _ Z Qr D ⟨[.val eI cell, .val eI k, .any, .any], []⟩ (defBody s__law_draw) (m_law_draw cell k)
  refine bj_asg (i := 2) am (ej_add (ej_add (ej_mul_p (ej_mod_lp (ej_var (i := 0)) ej_int) ej_int) (ej_mul_p ej_int (ej_var (i := 1)))) ej_int) (fun seed_5 => ?_)
  change BJ _ _ _ _ ⟨[.val eI cell, .val eI k, .val eI seed_5, .any], []⟩ _ _
  refine bj_asg (i := 3) am (ej_mod_l (ej_mul (ej_mod_l (ej_mul_p (ej_var (i := 2)) (ej_var (i := 2))) ej_int) (ej_add (ej_add (ej_var (i := 2)) (ej_mul_p ej_int (ej_var (i := 1)))) ej_int)) ej_int) (fun turned_14 => ?_)
  change BJ _ _ _ _ ⟨[.val eI cell, .val eI k, .val eI seed_5, .val eI turned_14], []⟩ _ _
  exact bj_ret hR (ej_mod_l (ej_mul (ej_var (i := 3)) (ej_add (ej_add (ej_var (i := 3)) (ej_mul_p ej_int (ej_var (i := 1)))) ej_int)) ej_int)
def N__law_way : List PySem.Str := ["below", "reach", "way"]
theorem sc__law_way : FnScope N__law_way ["below", "reach"] (defScope s__law_way) := ⟨rfl, rfl, rfl, by decide +kernel, rfl, by decide +kernel, by decide +kernel⟩
theorem c__law_way {P : Program} {w : World} {K : Frag} {mg : Str → Option Value} {base : Heap} (T : Fx K mg) : Cal P w K mg base "_law_way" 1 (spF mg (arL eI (arV eI (ar0 (K := K)))) (fun g => m_law_way g.1 g.2.1) (rtN (eI (K := K)))) := by
  obtain ⟨fd, F⟩ : ∃ fd, FunD K "_law_way" "_law_way" (defArgs s__law_way) (defBody s__law_way) (defScope s__law_way) [] [] (He.ga K "_law_way") fd := T.def_ 27
  refine cal_mk F (fn_ok F sc__law_way (fun g => rfl) ?_) (T.glo 27) (fun _ _ _ _ _ _ us hl => match us, hl with | [_, _], _ => rfl)
  intro cdv Ao outer s H E Z Qr D g am hR hN
  obtain ⟨below, reach, _⟩ := g
  change BJ _ Z Qr D ⟨[.bor eI below, .val eI reach, .any], []⟩ (defBody s__law_way) (m_law_way below reach)
  refine bj_own (i := 2) am (fj_lst (en := eI) ij_nil) (fun way_1 => ?_)
  change BJ _ _ _ _ ⟨[.bor eI below, .val eI reach, .own 0], [.lst none eI way_1]⟩ _ _
  refine bj_whiles (S := Int × (List Int)) (sps := fun (s2 : Int × (List Int)) => ⟨[.bor eI below, .val eI s2.1, .own 0], [.lst none eI s2.2]⟩) am fuel ((reach, way_1)) (le_mk (ks := [0]) (.cons .bor (.cons .val (.cons (.own rfl) .nil))) (.keep rfl (.nil))) (fun s2 => (tj_cmp (cj_ne_p scI (ej_var (i := 1)) (ej_neg_p ej_int)))) (fun s2 Q6 D7 hN3 => ?_) (fun s2 => ?_)
  · change BJ _ _ _ _ ⟨[.bor eI below, .val eI s2.1, .own 0], [.lst none eI s2.2]⟩ _ _
    refine bj_append_p (i := 2) (o := 0) rfl rfl (ej_var (i := 1)) (fun way_4 => ?_)
    change BJ _ _ _ _ ⟨[.bor eI below, .val eI s2.1, .own 0], [.lst none eI way_4]⟩ _ _
    refine bj_asg (i := 1) am (ej_ix_p (lj_bor (i := 0)) (ej_var (i := 1))) (fun reach_5 => ?_)
    change BJ _ _ _ _ ⟨[.bor eI below, .val eI reach_5, .own 0], [.lst none eI way_4]⟩ _ _
    exact bj_weak (le_mk (ks := [0]) (.cons .bor (.cons .val (.cons (.own rfl) .nil))) (.keep rfl (.nil))) (bj_nil hN3 ((reach_5, way_4)))
  · change BJ _ _ _ _ ⟨[.bor eI below, .val eI s2.1, .own 0], [.lst none eI s2.2]⟩ _ _
    exact bj_retO (i := 2) (k := 0) hR
def N__law_more : List PySem.Str := ["roll", "below", "cell", "found", "k", "one", "back"]
theorem sc__law_more : FnScope N__law_more ["roll", "below", "cell"] (defScope s__law_more) := ⟨rfl, rfl, rfl, by decide +kernel, rfl, by decide +kernel, by decide +kernel⟩
theorem c__law_more {P : Program} {w : World} {K : Frag} {mg : Str → Option Value} {base : Heap} (T : Fx K mg) : Cal P w K mg base "_law_more" 1 (spF mg (arL (eT (vsC eI (vsC eI (vsC eI (vs1 eI))))) (arL eI (arV eI (ar0 (K := K))))) (fun g => m_law_more g.1 g.2.1 g.2.2.1) (rtN (eT (vsC (eI (K := K)) (vsC (eI (K := K)) (vsC (eI (K := K)) (vs1 (eI (K := K))))))))) := by
  obtain ⟨fd, F⟩ : ∃ fd, FunD K "_law_more" "_law_more" (defArgs s__law_more) (defBody s__law_more) (defScope s__law_more) [] [] (He.ga K "_law_more") fd := T.def_ 30
  have b_enumerate : mg "enumerate" = none := T.free 70
  have b_len : mg "len" = none := T.free 73
  refine cal_mk F (fn_ok F sc__law_more (fun g => rfl) ?_) (T.glo 30) (fun _ _ _ _ _ _ us hl => match us, hl with | [_, _, _], _ => rfl)
  intro cdv Ao outer s H E Z Qr D g am hR hN
  obtain ⟨roll, below, cell, _⟩ := g
  change BJ _ Z Qr D ⟨[.bor (eT (vsC eI (vsC eI (vsC eI (vs1 eI))))) roll, .bor eI below, .val eI cell, .any, .any, .any, .any], []⟩ (defBody s__law_more) (m_law_more roll below cell)
  refine bj_own (i := 3) am (fj_lst (en := (eT (vsC eI (vsC eI (vsC eI (vs1 eI)))))) ij_nil) (fun found_1 => ?_)
  change BJ _ _ _ _ ⟨[.bor (eT (vsC eI (vsC eI (vsC eI (vs1 eI))))) roll, .bor eI below, .val eI cell, .own 0, .any, .any, .any], [.lst none (eT (vsC eI (vsC eI (vsC eI (vs1 eI))))) found_1]⟩ _ _
  refine bj_fors_p (S := (List (Int × Int × Int × Int))) (is := [4, 5]) (sps := fun (s2 : (List (Int × Int × Int × Int))) => ⟨[.bor (eT (vsC eI (vsC eI (vsC eI (vs1 eI))))) roll, .bor eI below, .val eI cell, .own 0, .any, .any, .any], [.lst none (eT (vsC eI (vsC eI (vsC eI (vs1 eI))))) s2]⟩) am found_1 (sj_enum_p b_enumerate (kj_bor (i := 0))) (gj_tup am.calm (gsj_cons (gj_name (i := 4) am.nd) (gsj_one (gj_name (i := 5) am.nd))) (lenC len1)) (le_mk (ks := [0]) (.cons .bor (.cons .bor (.cons .val (.cons (.own rfl) (.cons .any (.cons .any (.cons .any .nil))))))) (.keep rfl (.nil))) (fun Z zx y3 s2 Q21 D22 hN4 => ?_) (fun s2 => ?_)
  · have am := am.zx zx
    change BJ _ _ _ _ ⟨[.bor (eT (vsC eI (vsC eI (vsC eI (vs1 eI))))) roll, .bor eI below, .val eI cell, .own 0, .val eI y3.1, .val (eT (vsC eI (vsC eI (vsC eI (vs1 eI))))) y3.2, .any], [.lst none (eT (vsC eI (vsC eI (vsC eI (vs1 eI))))) s2]⟩ _ _
    refine bj_asg (i := 6) am (ej_tix_p 2 (f := fun (g : Int × Int × Int × Int) => g.2.2.1) (ej_var (i := 5)) (vatS (vatS vat0))) (fun back_6 => ?_)
    change BJ _ _ _ _ ⟨[.bor (eT (vsC eI (vsC eI (vsC eI (vs1 eI))))) roll, .bor eI below, .val eI cell, .own 0, .val eI y3.1, .val (eT (vsC eI (vsC eI (vsC eI (vs1 eI))))) y3.2, .val eI back_6], [.lst none (eT (vsC eI (vsC eI (vsC eI (vs1 eI))))) s2]⟩ _ _
    refine bj_ifs (S := Int) (sps := fun (s14 : Int) => ⟨[.bor (eT (vsC eI (vsC eI (vsC eI (vs1 eI))))) roll, .bor eI below, .val eI cell, .own 0, .val eI y3.1, .val (eT (vsC eI (vsC eI (vsC eI (vs1 eI))))) y3.2, .val eI s14], [.lst none (eT (vsC eI (vsC eI (vsC eI (vs1 eI))))) s2]⟩) (tj_wj (wj_and (tj_cmp (cj_ne scI (ej_ix_p (lj_bor (i := 1)) (ej_tix_p 1 (f := fun (g : Int × Int × Int × Int) => g.2.1) (ej_var (i := 5)) (vatS vat0))) (ej_neg_p ej_int))) (wj_and1 (tj_wj (wj_or (tj_cmp (cj_eq_p scI (ej_mod_lp (ej_var (i := 2)) ej_int) ej_int)) (wj_or1 (tj_wj (wj_and (tj_cmp (cj_eq_p scI (ej_mod_lp (ej_var (i := 2)) ej_int) ej_int)) (wj_and1 (tj_cmp (cj_eq scI (ej_var (i := 4)) (ej_mod_p (ej_div_lp (ej_var (i := 2)) ej_int) (ej_len_p b_len (lj_bor (i := 0))))))))))))))) (fun s14 => ?_) (fun Q18 D19 hN15 => ?_) (fun Q18 D19 hN15 => ?_)
    · change BJ _ _ _ _ ⟨[.bor (eT (vsC eI (vsC eI (vsC eI (vs1 eI))))) roll, .bor eI below, .val eI cell, .own 0, .val eI y3.1, .val (eT (vsC eI (vsC eI (vsC eI (vs1 eI))))) y3.2, .val eI s14], [.lst none (eT (vsC eI (vsC eI (vsC eI (vs1 eI))))) s2]⟩ _ _
      refine bj_append_p (i := 3) (o := 0) rfl rfl (ej_tup (vj_cons_p (ej_tix_p 0 (f := fun (g : Int × Int × Int × Int) => g.1) (ej_var (i := 5)) vat0) (vj_cons_p (ej_tix_p 1 (f := fun (g : Int × Int × Int × Int) => g.2.1) (ej_var (i := 5)) (vatS vat0)) (vj_cons_p (ej_var (i := 6)) (vj_one (ej_tix_p 3 (f := fun (g : Int × Int × Int × Int) => g.2.2.2) (ej_var (i := 5)) (vatS (vatS (vatS vat1))))))))) (fun found_17 => ?_)
      change BJ _ _ _ _ ⟨[.bor (eT (vsC eI (vsC eI (vsC eI (vs1 eI))))) roll, .bor eI below, .val eI cell, .own 0, .val eI y3.1, .val (eT (vsC eI (vsC eI (vsC eI (vs1 eI))))) y3.2, .val eI s14], [.lst none (eT (vsC eI (vsC eI (vsC eI (vs1 eI))))) found_17]⟩ _ _
      exact bj_weak (le_mk (ks := [0]) (.cons .bor (.cons .bor (.cons .val (.cons (.own rfl) (.cons .any (.cons .any (.cons .any .nil))))))) (.keep rfl (.nil))) (bj_nil hN4 found_17)
    · change BJ _ _ _ _ ⟨[.bor (eT (vsC eI (vsC eI (vsC eI (vs1 eI))))) roll, .bor eI below, .val eI cell, .own 0, .val eI y3.1, .val (eT (vsC eI (vsC eI (vsC eI (vs1 eI))))) y3.2, .val eI back_6], [.lst none (eT (vsC eI (vsC eI (vsC eI (vs1 eI))))) s2]⟩ _ _
      refine bj_asg (i := 6) am (ej_ix_p (lj_bor (i := 1)) (ej_tix_p 1 (f := fun (g : Int × Int × Int × Int) => g.2.1) (ej_var (i := 5)) (vatS vat0))) (fun back_16 => ?_)
      change BJ _ _ _ _ ⟨[.bor (eT (vsC eI (vsC eI (vsC eI (vs1 eI))))) roll, .bor eI below, .val eI cell, .own 0, .val eI y3.1, .val (eT (vsC eI (vsC eI (vsC eI (vs1 eI))))) y3.2, .val eI back_16], [.lst none (eT (vsC eI (vsC eI (vsC eI (vs1 eI))))) s2]⟩ _ _
      exact bj_weak (le_mk (ks := [0]) (.cons .bor (.cons .bor (.cons .val (.cons (.own rfl) (.cons .val (.cons .val (.cons .val .nil))))))) (.keep rfl (.nil))) (bj_nil hN15 back_16)
    · change BJ _ _ _ _ ⟨[.bor (eT (vsC eI (vsC eI (vsC eI (vs1 eI))))) roll, .bor eI below, .val eI cell, .own 0, .val eI y3.1, .val (eT (vsC eI (vsC eI (vsC eI (vs1 eI))))) y3.2, .val eI back_6], [.lst none (eT (vsC eI (vsC eI (vsC eI (vs1 eI))))) s2]⟩ _ _
      exact bj_weak (le_mk (ks := [0]) (.cons .bor (.cons .bor (.cons .val (.cons (.own rfl) (.cons .val (.cons .val (.cons .val .nil))))))) (.keep rfl (.nil))) (bj_nil hN15 back_6)
  · change BJ _ _ _ _ ⟨[.bor (eT (vsC eI (vsC eI (vsC eI (vs1 eI))))) roll, .bor eI below, .val eI cell, .own 0, .any, .any, .any], [.lst none (eT (vsC eI (vsC eI (vsC eI (vs1 eI))))) s2]⟩ _ _
    exact bj_retO (i := 3) (k := 0) hR
def N__law_other_name : List PySem.Str := ["e"]
theorem sc__law_other_name : FnScope N__law_other_name ["e"] (defScope s__law_other_name) := ⟨rfl, rfl, rfl, by decide +kernel, rfl, by decide +kernel, by decide +kernel⟩
theorem c__law_other_name {P : Program} {w : World} {K : Frag} {mg : Str → Option Value} {base : Heap} (T : Fx K mg) : Cal P w K mg base "_law_other_name" 1 (spF mg (arV (eX Mr.exN) (ar0 (K := K))) (fun g => m_law_other_name g.1) (rtV (eB (K := K)))) := by
  obtain ⟨fd, F⟩ : ∃ fd, FunD K "_law_other_name" "_law_other_name" (defArgs s__law_other_name) (defBody s__law_other_name) (defScope s__law_other_name) [] [] (He.ga K "_law_other_name") fd := T.def_ 31
  have b_isinstance : mg "isinstance" = none := T.free 72
  refine cal_mk F (fn_ok F sc__law_other_name (fun g => rfl) ?_) (T.glo 31) (fun _ _ _ _ _ _ us hl => match us, hl with | [_], _ => rfl)
  intro cdv Ao outer s H E Z Qr D g am hR hN
  obtain ⟨e, _⟩ := g
  have xf := T.xf
  change BJ _ Z Qr D ⟨[.val (eX Mr.exN) e], []⟩ (defBody s__law_other_name) (m_law_other_name e)
  refine bj_ifr_p (tj_wj (wj_or_p (tj_val (ej_isX_p (ns := Mr.exN) (ts := Mr.exT) xf b_isinstance (ej_var (i := 0)))) (wj_or_p (tj_val (ej_isX_p (ns := Mr.exN) (ts := Mr.exT) xf b_isinstance (ej_var (i := 0)))) (wj_or_p (tj_val (ej_isX_p (ns := Mr.exN) (ts := Mr.exT) xf b_isinstance (ej_var (i := 0)))) (wj_or1 (tj_val (ej_isX_p (ns := Mr.exN) (ts := Mr.exT) xf b_isinstance (ej_var (i := 0))))))))) (fun n3 => ?_) ?_
  · change BJ _ _ _ _ ⟨[.val (eX Mr.exN) e], []⟩ _ _
    exact bj_ret hR ej_bl
  · change BJ _ _ _ _ ⟨[.val (eX Mr.exN) e], []⟩ _ _
    refine bj_ifr_p (tj_wj (wj_or_p (tj_val (ej_isX_p (ns := Mr.exN) (ts := Mr.exT) xf b_isinstance (ej_var (i := 0)))) (wj_or_p (tj_val (ej_isX_p (ns := Mr.exN) (ts := Mr.exT) xf b_isinstance (ej_var (i := 0)))) (wj_or_p (tj_val (ej_isX_p (ns := Mr.exN) (ts := Mr.exT) xf b_isinstance (ej_var (i := 0)))) (wj_or1 (tj_val (ej_isX_p (ns := Mr.exN) (ts := Mr.exT) xf b_isinstance (ej_var (i := 0))))))))) (fun n2 => ?_) ?_
    · change BJ _ _ _ _ ⟨[.val (eX Mr.exN) e], []⟩ _ _
      exact bj_ret hR ej_bl
    · change BJ _ _ _ _ ⟨[.val (eX Mr.exN) e], []⟩ _ _
      refine bj_ifr_p (tj_wj (wj_or_p (tj_val (ej_isX_p (ns := Mr.exN) (ts := Mr.exT) xf b_isinstance (ej_var (i := 0)))) (wj_or_p (tj_val (ej_isX_p (ns := Mr.exN) (ts := Mr.exT) xf b_isinstance (ej_var (i := 0)))) (wj_or_p (tj_val (ej_isX_p (ns := Mr.exN) (ts := Mr.exT) xf b_isinstance (ej_var (i := 0)))) (wj_or1 (tj_val (ej_isX_p (ns := Mr.exN) (ts := Mr.exT) xf b_isinstance (ej_var (i := 0))))))))) (fun n1 => ?_) ?_
      · change BJ _ _ _ _ ⟨[.val (eX Mr.exN) e], []⟩ _ _
        exact bj_ret hR ej_bl
      · change BJ _ _ _ _ ⟨[.val (eX Mr.exN) e], []⟩ _ _
        exact bj_ret hR (ej_or_p (ej_isX_p (ns := Mr.exN) (ts := Mr.exT) xf b_isinstance (ej_var (i := 0))) (ej_or_p (ej_isX_p (ns := Mr.exN) (ts := Mr.exT) xf b_isinstance (ej_var (i := 0))) (ej_one (ej_isX_p (ns := Mr.exN) (ts := Mr.exT) xf b_isinstance (ej_var (i := 0))))))
def N_tops_first : List PySem.Str := ["below", "order", "reach", "length"]
theorem sc_tops_first : FnScope N_tops_first ["below"] (defScope s_tops_first) := ⟨rfl, rfl, rfl, by decide +kernel, rfl, by decide +kernel, by decide +kernel⟩
theorem c_tops_first {P : Program} {w : World} {K : Frag} {mg : Str → Option Value} {base : Heap} (T : Fx K mg) : Cal P w K mg base "tops_first" 2 (spF mg (arL eI (ar0 (K := K))) (fun g => m_tops_first g.1) (rtN (eI (K := K)))) := by
  obtain ⟨fd, F⟩ : ∃ fd, FunD K "tops_first" "tops_first" (defArgs s_tops_first) (defBody s_tops_first) (defScope s_tops_first) [] [] (He.ga K "tops_first") fd := T.def_ 1
  have c_way_of := c_way_of (P := P) (w := w) (base := base) T
  have b_len : mg "len" = none := T.free 73
  have b_range : mg "range" = none := T.free 76
  have b_sorted : mg "sorted" = none := T.free 78
  refine cal_mk F (fn_ok F sc_tops_first (fun g => rfl) ?_) (T.glo 1) (fun _ _ _ _ _ _ us hl => match us, hl with | [_], _ => rfl)
  intro cdv Ao outer s H E Z Qr D g am hR hN
  obtain ⟨below, _⟩ := g
  change BJ _ Z Qr D ⟨[.bor eI below, .any, .any, .any], []⟩ (defBody s_tops_first) (m_tops_first below)
  refine bj_asg (i := 1) am (ej_fj (fj_sortedP b_sorted (lj_fj (fj_lc (bd := fun (y1 : Int) sl => (sl.set 2 (.val eI y1))) (en := eI) (en' := (eT (vsC eI (vs1 eI)))) (own := [("reach", 2)]) (is := [2]) am (blkOk_by (N := N_tops_first) (sc := defScope s_tops_first) (by decide +kernel)) (by exact (sj_range1_p b_range (ej_len_p b_len (lj_bor (i := 0))))) (by exact fun s1 H1 C1 cl1 fp1 => (gj_name (i := 2) (am.blk s1 H1 C1 cl1 fp1).nd)) (by exact fun y1 s1 H1 C1 cl1 fp1 => (ej_tup (vj_cons (ej_sub ej_int (ej_len b_len (lj_fj (fj_call_p (mf := (fun (g : (List Int) × Int × Unit) => m_way_of g.1 g.2.1)) (g := (below, y1, ())) (am.blk s1 H1 C1 cl1 fp1) c_way_of (by decide) (aj_lst_p (lj_bor (i := 0)) (aj_val_p (ej_var (i := 2)) aj_nil)))))) (vj_one (ej_var (i := 2)))))))))) (fun order_9 => ?_)
  change BJ _ _ _ _ ⟨[.bor eI below, .val (eL (eT (vsC eI (vs1 eI)))) order_9, .any, .any], []⟩ _ _
  exact bj_retF hR (fj_lc_pp (bd := fun (y10 : Int × Int) sl => ((sl.set 3 (.val eI y10.1)).set 2 (.val eI y10.2))) (en := (eT (vsC eI (vs1 eI)))) (en' := eI) (own := [("length", 3), ("reach", 2)]) (is := [3, 2]) am (blkOk_by (N := N_tops_first) (sc := defScope s_tops_first) (by decide +kernel)) (by exact (sj_list (kj_ej (ej_var (i := 1))))) (by exact fun s1 H1 C1 cl1 fp1 => (gj_tup (am.blk s1 H1 C1 cl1 fp1).calm (gsj_cons (gj_name (i := 3) (am.blk s1 H1 C1 cl1 fp1).nd) (gsj_one (gj_name (i := 2) (am.blk s1 H1 C1 cl1 fp1).nd))) (lenC len1))) (by exact fun y10 s1 H1 C1 cl1 fp1 => (ej_var (i := 2))))
def N_stretch_of : List PySem.Str := ["below", "start", "stop", "way"]
theorem sc_stretch_of : FnScope N_stretch_of ["below", "start", "stop"] (defScope s_stretch_of) := ⟨rfl, rfl, rfl, by decide +kernel, rfl, by decide +kernel, by decide +kernel⟩
theorem c_stretch_of {P : Program} {w : World} {K : Frag} {mg : Str → Option Value} {base : Heap} (T : Fx K mg) : Cal P w K mg base "stretch_of" 2 (spF mg (arL eI (arV eI (arV eI (ar0 (K := K))))) (fun g => m_stretch_of g.1 g.2.1 g.2.2.1) (rtN (eI (K := K)))) := by
  obtain ⟨fd, F⟩ : ∃ fd, FunD K "stretch_of" "stretch_of" (defArgs s_stretch_of) (defBody s_stretch_of) (defScope s_stretch_of) [] [] (He.ga K "stretch_of") fd := T.def_ 2
  have c_way_of := c_way_of (P := P) (w := w) (base := base) T
  have x_NoReach : ExF K mg "NoReach" := T.exc 38 39
  refine cal_mk F (fn_ok F sc_stretch_of (fun g => rfl) ?_) (T.glo 2) (fun _ _ _ _ _ _ us hl => match us, hl with | [_, _, _], _ => rfl)
  intro cdv Ao outer s H E Z Qr D g am hR hN
  obtain ⟨below, start, stop, _⟩ := g
  change BJ _ Z Qr D ⟨[.bor eI below, .val eI start, .val eI stop, .any], []⟩ (defBody s_stretch_of) (m_stretch_of below start stop)
  refine bj_own (i := 3) am (fj_call_p (mf := (fun (g : (List Int) × Int × Unit) => m_way_of g.1 g.2.1)) (g := (below, start, ())) am c_way_of (by decide) (aj_lst_p (lj_bor (i := 0)) (aj_val_p (ej_var (i := 1)) aj_nil))) (fun way_1 => ?_)
  change BJ _ _ _ _ ⟨[.bor eI below, .val eI start, .val eI stop, .own 0], [.lst none eI way_1]⟩ _ _
  refine bj_ifr_p (tj_cmp (cj_eq_p scI (ej_var (i := 2)) (ej_neg_p ej_int))) (fun n7 => ?_) ?_
  · change BJ _ _ _ _ ⟨[.bor eI below, .val eI start, .val eI stop, .own 0], [.lst none eI way_1]⟩ _ _
    exact bj_retO (i := 3) (k := 0) hR
  · change BJ _ _ _ _ ⟨[.bor eI below, .val eI start, .val eI stop, .own 0], [.lst none eI way_1]⟩ _ _
    refine bj_frz (k := 0) (en := eI) rfl ?_
    change BJ _ _ _ _ ⟨[.bor eI below, .val eI start, .val eI stop, .val (eL eI) way_1], [.dead]⟩ _ _
    refine bj_ifr_p (tj_cmp (cj_notIn_p flI (ej_var (i := 2)) (lj_ej (ej_var (i := 3))))) (fun n6 => ?_) ?_
    · change BJ _ _ _ _ ⟨[.bor eI below, .val eI start, .val eI stop, .val (eL eI) way_1], [.dead]⟩ _ _
      exact bj_raise am x_NoReach
    · change BJ _ _ _ _ ⟨[.bor eI below, .val eI start, .val eI stop, .val (eL eI) way_1], [.dead]⟩ _ _
      exact bj_retF hR (fj_slice (lj_ej (ej_var (i := 3))) oj_none (oj_some (ej_index_p flI (lj_ej (ej_var (i := 3))) (ej_var (i := 2)))))
def N_groups_of : List PySem.Str := ["roll", "groups", "last", "number"]
theorem sc_groups_of : FnScope N_groups_of ["roll"] (defScope s_groups_of) := ⟨rfl, rfl, rfl, by decide +kernel, rfl, by decide +kernel, by decide +kernel⟩
theorem c_groups_of {P : Program} {w : World} {K : Frag} {mg : Str → Option Value} {base : Heap} (T : Fx K mg) : Cal P w K mg base "groups_of" 2 (spF mg (arL (eT (vsC eI (vsC eI (vsC eI (vs1 eI))))) (ar0 (K := K))) (fun g => m_groups_of g.1) (rtV (eL (eL (eI (K := K)))))) := by
  obtain ⟨fd, F⟩ : ∃ fd, FunD K "groups_of" "groups_of" (defArgs s_groups_of) (defBody s_groups_of) (defScope s_groups_of) [] [] (He.ga K "groups_of") fd := T.def_ 6
  have c_ranked := c_ranked (P := P) (w := w) (base := base) T
  refine cal_mk F (fn_ok F sc_groups_of (fun g => rfl) ?_) (T.glo 6) (fun _ _ _ _ _ _ us hl => match us, hl with | [_], _ => rfl)
  intro cdv Ao outer s H E Z Qr D g am hR hN
  obtain ⟨roll, _⟩ := g
  change BJ _ Z Qr D ⟨[.bor (eT (vsC eI (vsC eI (vsC eI (vs1 eI))))) roll, .any, .any, .any], []⟩ (defBody s_groups_of) (m_groups_of roll)
  refine bj_ownLL (i := 1) (en := eI) am (fj_lst (en := (eL eI)) ij_nil) ?_
  change BJ _ _ _ _ ⟨[.bor (eT (vsC eI (vsC eI (vsC eI (vs1 eI))))) roll, .own 0, .any, .any], [.lls none eI ([])]⟩ _ _
  refine bj_asg (i := 2) am (ej_neg_p ej_int) (fun last_1 => ?_)
  change BJ _ _ _ _ ⟨[.bor (eT (vsC eI (vsC eI (vsC eI (vs1 eI))))) roll, .own 0, .val eI last_1, .any], [.lls none eI ([])]⟩ _ _
  refine bj_fors (S := (List (List Int)) × Int) (is := [3]) (sps := fun (s2 : (List (List Int)) × Int) => ⟨[.bor (eT (vsC eI (vsC eI (vsC eI (vs1 eI))))) roll, .own 0, .val eI s2.2, .any], [.lls none eI s2.1]⟩) am (([], last_1)) (sj_list (kj_fj (fj_call_p (mf := (fun (g : (List (Int × Int × Int × Int)) × Unit) => m_ranked g.1)) (g := (roll, ())) am c_ranked (by decide) (aj_lst_p (lj_bor (i := 0)) aj_nil)))) (gj_name (i := 3) am.nd) (le_mk (ks := [0]) (.cons .bor (.cons (.own rfl) (.cons .val (.cons .any .nil)))) (.keep rfl (.nil))) (fun Z zx y3 s2 Q23 D24 hN4 => ?_) (fun s2 => ?_)
  · have am := am.zx zx
    change BJ _ _ _ _ ⟨[.bor (eT (vsC eI (vsC eI (vsC eI (vs1 eI))))) roll, .own 0, .val eI s2.2, .val eI y3], [.lls none eI s2.1]⟩ _ _
    refine bj_ifs (S := (List (List Int)) × Int) (sps := fun (s9 : (List (List Int)) × Int) => ⟨[.bor (eT (vsC eI (vsC eI (vsC eI (vs1 eI))))) roll, .own 0, .val eI s9.2, .val eI y3], [.lls none eI s9.1]⟩) (tj_cmp (cj_ne scI (ej_tix 0 (f := fun (g : Int × Int × Int × Int) => g.1) (ej_ix_p (lj_bor (i := 0)) (ej_var (i := 3))) vat0) (ej_var (i := 2)))) (fun s9 => ?_) (fun Q20 D21 hN10 => ?_) (fun Q20 D21 hN10 => ?_)
    · change BJ _ _ _ _ ⟨[.bor (eT (vsC eI (vsC eI (vsC eI (vs1 eI))))) roll, .own 0, .val eI s9.2, .val eI y3], [.lls none eI s9.1]⟩ _ _
      refine bj_llsub (i := 1) (o := 0) rfl rfl (ej_neg_p ej_int) (ej_var (i := 3)) (fun groups_15 => ?_)
      change BJ _ _ _ _ ⟨[.bor (eT (vsC eI (vsC eI (vsC eI (vs1 eI))))) roll, .own 0, .val eI s9.2, .val eI y3], [.lls none eI groups_15]⟩ _ _
      exact bj_weak (le_mk (ks := [0]) (.cons .bor (.cons (.own rfl) (.cons .val (.cons .any .nil)))) (.keep rfl (.nil))) (bj_nil hN4 ((groups_15, s9.2)))
    · change BJ _ _ _ _ ⟨[.bor (eT (vsC eI (vsC eI (vsC eI (vs1 eI))))) roll, .own 0, .val eI s2.2, .val eI y3], [.lls none eI s2.1]⟩ _ _
      refine bj_llapp (i := 1) (o := 0) rfl rfl (fj_lst (en := eI) ij_nil) (fun groups_11 => ?_)
      change BJ _ _ _ _ ⟨[.bor (eT (vsC eI (vsC eI (vsC eI (vs1 eI))))) roll, .own 0, .val eI s2.2, .val eI y3], [.lls none eI groups_11]⟩ _ _
      refine bj_asg (i := 2) am (ej_tix 0 (f := fun (g : Int × Int × Int × Int) => g.1) (ej_ix_p (lj_bor (i := 0)) (ej_var (i := 3))) vat0) (fun last_14 => ?_)
      change BJ _ _ _ _ ⟨[.bor (eT (vsC eI (vsC eI (vsC eI (vs1 eI))))) roll, .own 0, .val eI last_14, .val eI y3], [.lls none eI groups_11]⟩ _ _
      exact bj_weak (le_mk (ks := [0]) (.cons .bor (.cons (.own rfl) (.cons .val (.cons .val .nil)))) (.keep rfl (.nil))) (bj_nil hN10 ((groups_11, last_14)))
    · change BJ _ _ _ _ ⟨[.bor (eT (vsC eI (vsC eI (vsC eI (vs1 eI))))) roll, .own 0, .val eI s2.2, .val eI y3], [.lls none eI s2.1]⟩ _ _
      exact bj_weak (le_mk (ks := [0]) (.cons .bor (.cons (.own rfl) (.cons .val (.cons .val .nil)))) (.keep rfl (.nil))) (bj_nil hN10 ((s2.1, s2.2)))
  · change BJ _ _ _ _ ⟨[.bor (eT (vsC eI (vsC eI (vsC eI (vs1 eI))))) roll, .own 0, .val eI s2.2, .any], [.lls none eI s2.1]⟩ _ _
    refine bj_frzLL (k := 0) (en := eI) rfl ?_
    change BJ _ _ _ _ ⟨[.bor (eT (vsC eI (vsC eI (vsC eI (vs1 eI))))) roll, .val (eL (eL eI)) s2.1, .val eI s2.2, .any], [.dead]⟩ _ _
    exact bj_ret hR (ej_var (i := 1))
def N_whole_turns : List PySem.Str := ["free", "ways", "rests", "turns", "drops", "times"]
theorem sc_whole_turns : FnScope N_whole_turns ["free", "ways", "rests"] (defScope s_whole_turns) := ⟨rfl, rfl, rfl, by decide +kernel, rfl, by decide +kernel, by decide +kernel⟩
theorem c_whole_turns {P : Program} {w : World} {K : Frag} {mg : Str → Option Value} {base : Heap} (T : Fx K mg) : Cal P w K mg base "whole_turns" 2 (spF mg (arL eI (arL (eL eI) (arL eI (ar0 (K := K))))) (fun g => m_whole_turns g.1 g.2.1 g.2.2.1) (rtV (eI (K := K)))) := by
  obtain ⟨fd, F⟩ : ∃ fd, FunD K "whole_turns" "whole_turns" (defArgs s_whole_turns) (defBody s_whole_turns) (defScope s_whole_turns) [] [] (He.ga K "whole_turns") fd := T.def_ 9
  have c_ways_through := c_ways_through (P := P) (w := w) (base := base) T
  have b_len : mg "len" = none := T.free 73
  have b_min : mg "min" = none := T.free 75
  have b_zip : mg "zip" = none := T.free 81
  refine cal_mk F (fn_ok F sc_whole_turns (fun g => rfl) ?_) (T.glo 9) (fun _ _ _ _ _ _ us hl => match us, hl with | [_, _, _], _ => rfl)
  intro cdv Ao outer s H E Z Qr D g am hR hN
  obtain ⟨free, ways, rests, _⟩ := g
  change BJ _ Z Qr D ⟨[.bor eI free, .bor (eL eI) ways, .bor eI rests, .any, .any, .any], []⟩ (defBody s_whole_turns) (m_whole_turns free ways rests)
  refine bj_asg (i := 3) am (ej_minL_p b_min (lj_bor (i := 2))) (fun turns_1 => ?_)
  change BJ _ _ _ _ ⟨[.bor eI free, .bor (eL eI) ways, .bor eI rests, .val eI turns_1, .any, .any], []⟩ _ _
  refine bj_fors (S := Int) (is := [4, 5]) (sps := fun (s4 : Int) => ⟨[.bor eI free, .bor (eL eI) ways, .bor eI rests, .val eI s4, .any, .any], []⟩) am turns_1 (sj_zip b_zip (kj_bor (i := 0)) (kj_fj (fj_call_p (mf := (fun (g : Int × (List (List Int)) × Unit) => m_ways_through g.1 g.2.1)) (g := (((free).length : Int), ways, ())) am c_ways_through (by decide) (aj_val_p (ej_len_p b_len (lj_bor (i := 0))) (aj_lst_p (lj_bor (i := 1)) aj_nil))))) (gj_tup am.calm (gsj_cons (gj_name (i := 4) am.nd) (gsj_one (gj_name (i := 5) am.nd))) (lenC len1)) (le_mk (ks := []) (.cons .bor (.cons .bor (.cons .bor (.cons .val (.cons .any (.cons .any .nil)))))) (.nil)) (fun Z zx y5 s4 Q15 D16 hN6 => ?_) (fun s4 => ?_)
  · have am := am.zx zx
    change BJ _ _ _ _ ⟨[.bor eI free, .bor (eL eI) ways, .bor eI rests, .val eI s4, .val eI y5.1, .val eI y5.2], []⟩ _ _
    refine bj_ifs_p (S := Int) (sps := fun (s8 : Int) => ⟨[.bor eI free, .bor (eL eI) ways, .bor eI rests, .val eI s8, .val eI y5.1, .val eI y5.2], []⟩) (tj_cmp (cj_gt_p (ej_var (i := 5)) ej_int)) (fun s8 => ?_) (fun Q13 D14 hN9 => ?_) (fun Q13 D14 hN9 => ?_)
    · change BJ _ _ _ _ ⟨[.bor eI free, .bor (eL eI) ways, .bor eI rests, .val eI s8, .val eI y5.1, .val eI y5.2], []⟩ _ _
      exact bj_weak (le_mk (ks := []) (.cons .bor (.cons .bor (.cons .bor (.cons .val (.cons .any (.cons .any .nil)))))) (.nil)) (bj_nil hN6 s8)
    · change BJ _ _ _ _ ⟨[.bor eI free, .bor (eL eI) ways, .bor eI rests, .val eI s4, .val eI y5.1, .val eI y5.2], []⟩ _ _
      refine bj_asg (i := 3) am (ej_min2 b_min (ej_var (i := 3)) (ej_div_p (ej_var (i := 4)) (ej_var (i := 5)))) (fun turns_12 => ?_)
      change BJ _ _ _ _ ⟨[.bor eI free, .bor (eL eI) ways, .bor eI rests, .val eI turns_12, .val eI y5.1, .val eI y5.2], []⟩ _ _
      exact bj_weak (le_mk (ks := []) (.cons .bor (.cons .bor (.cons .bor (.cons .val (.cons .val (.cons .val .nil)))))) (.nil)) (bj_nil hN9 turns_12)
    · change BJ _ _ _ _ ⟨[.bor eI free, .bor (eL eI) ways, .bor eI rests, .val eI s4, .val eI y5.1, .val eI y5.2], []⟩ _ _
      exact bj_weak (le_mk (ks := []) (.cons .bor (.cons .bor (.cons .bor (.cons .val (.cons .val (.cons .val .nil)))))) (.nil)) (bj_nil hN9 s4)
  · change BJ _ _ _ _ ⟨[.bor eI free, .bor (eL eI) ways, .bor eI rests, .val eI s4, .any, .any], []⟩ _ _
    exact bj_ret hR (ej_var (i := 3))
def N_one_turn : List PySem.Str := ["left", "ways", "rests", "takes", "going", "onward", "k"]
theorem sc_one_turn : FnScope N_one_turn ["left", "ways", "rests", "takes", "going"] (defScope s_one_turn) := ⟨rfl, rfl, rfl, by decide +kernel, rfl, by decide +kernel, by decide +kernel⟩
theorem c_one_turn {P : Program} {w : World} {K : Frag} {mg : Str → Option Value} {base : Heap} (T : Fx K mg) : Cal P w K mg base "one_turn" 2 (spM mg (amM true eI (amL (eL eI) (amL eI (amM true eI (amL eI (am0 (K := K))))))) (fun g => m_one_turn g.1 g.2.1 g.2.2.1 g.2.2.2.1 g.2.2.2.2.1) (rmN (eI (K := K)) (obs2 (eI (K := K)) (eI (K := K))))) := by
  obtain ⟨fd, F⟩ : ∃ fd, FunD K "one_turn" "one_turn" (defArgs s_one_turn) (defBody s_one_turn) (defScope s_one_turn) [] [] (He.ga K "one_turn") fd := T.def_ 12
  have c_runs_dry := c_runs_dry (P := P) (w := w) (base := base) T
  have c_take_out := c_take_out (P := P) (w := w) (base := base) T
  refine cal_mk F (fn_okM F sc_one_turn (fun g => rfl) ?_) (T.glo 12) (fun _ _ _ _ _ _ us hl => match us, hl with | [_, _, _, _, _], _ => rfl)
  intro cdv Ao outer s H E Z Qr D g ad hl am hR hN
  obtain ⟨left, ways, rests, takes, going, _⟩ := g
  obtain ⟨p_left, p_takes, rfl⟩ := ad2 hl
  change BJ _ Z Qr D ⟨[.own 0, .bor (eL eI) ways, .bor eI rests, .own 1, .bor eI going, .any, .any], [.lst (some p_left) eI left, .lst (some p_takes) eI takes]⟩ (defBody s_one_turn) (m_one_turn left ways rests takes going)
  refine bj_own (i := 5) am (fj_lst (en := eI) ij_nil) (fun onward_1 => ?_)
  change BJ _ _ _ _ ⟨[.own 0, .bor (eL eI) ways, .bor eI rests, .own 1, .bor eI going, .own 2, .any], [.lst (some p_left) eI left, .lst (some p_takes) eI takes, .lst none eI onward_1]⟩ _ _
  refine bj_for_p (S := (List Int) × (List Int) × (List Int)) (is := [6]) (sps := fun (s2 : (List Int) × (List Int) × (List Int)) => ⟨[.own 0, .bor (eL eI) ways, .bor eI rests, .own 1, .bor eI going, .own 2, .any], [.lst (some p_left) eI s2.1, .lst (some p_takes) eI s2.2.1, .lst none eI s2.2.2]⟩) am ((left, takes, onward_1)) (sj_list (kj_bor (i := 4))) (gj_name (i := 6) am.nd) (le_mk (ks := [0, 1, 2]) (.cons (.own rfl) (.cons .bor (.cons .bor (.cons (.own rfl) (.cons .bor (.cons (.own rfl) (.cons .any .nil))))))) (.keep rfl (.keep rfl (.keep rfl (.nil))))) (fun Z zx y3 s2 next6 nx bk hN4 hB5 => ?_) (fun s2 => ?_)
  · have am := am.zx zx
    have hR := hR.zx zx
    change BJ _ _ _ _ ⟨[.own 0, .bor (eL eI) ways, .bor eI rests, .own 1, .bor eI going, .own 2, .val eI y3], [.lst (some p_left) eI s2.1, .lst (some p_takes) eI s2.2.1, .lst none eI s2.2.2]⟩ _ _
    refine bj_ifr (tj_wj (wj_or (tj_cmp (cj_eq scI (ej_ix_p (lj_own (i := 3) (k := 1)) (ej_var (i := 6))) (ej_ix_p (lj_bor (i := 2)) (ej_var (i := 6))))) (wj_or1 (tj_val (ej_call am c_runs_dry (by decide) (aj_lst (lj_own (i := 0) (k := 0)) (aj_lst (lj_ej (ej_ix_p (lj_bor (i := 1)) (ej_var (i := 6)))) aj_nil))))))) (fun n22 => ?_) ?_
    · change BJ _ _ _ _ ⟨[.own 0, .bor (eL eI) ways, .bor eI rests, .own 1, .bor eI going, .own 2, .val eI y3], [.lst (some p_left) eI s2.1, .lst (some p_takes) eI s2.2.1, .lst none eI s2.2.2]⟩ _ _
      exact bj_weak (le_mk (ks := [0, 1, 2]) (.cons (.own rfl) (.cons .bor (.cons .bor (.cons (.own rfl) (.cons .bor (.cons (.own rfl) (.cons .any .nil))))))) (.keep rfl (.keep rfl (.keep rfl (.nil))))) (bj_cont hN4 ((s2.1, s2.2.1, s2.2.2)))
    · change BJ _ _ _ _ ⟨[.own 0, .bor (eL eI) ways, .bor eI rests, .own 1, .bor eI going, .own 2, .val eI y3], [.lst (some p_left) eI s2.1, .lst (some p_takes) eI s2.2.1, .lst none eI s2.2.2]⟩ _ _
      refine bj_exM (mf := fun (g : (List Int) × (List Int) × Int × Unit) => m_take_out g.1 g.2.1 g.2.2.1) am c_take_out (by decide) (amj_own (i := 0) (k := 0) (amj_lst (kj_ej (ej_ix_p (lj_bor (i := 1)) (ej_var (i := 6)))) (amj_val_p ej_int amj_nil)) (by decide)) (mst1 (k := 0) rfl) (fun r19 => ?_)
      change BJ _ _ _ _ ⟨[.own 0, .bor (eL eI) ways, .bor eI rests, .own 1, .bor eI going, .own 2, .val eI y3], [.lst (some p_left) eI r19.2, .lst (some p_takes) eI s2.2.1, .lst none eI s2.2.2]⟩ _ _
      refine bj_augi_p (i := 3) (o := 1) (f := fun i j => i + j) ip_add rfl rfl (ej_var (i := 6)) ej_int (fun takes_20 => ?_)
      change BJ _ _ _ _ ⟨[.own 0, .bor (eL eI) ways, .bor eI rests, .own 1, .bor eI going, .own 2, .val eI y3], [.lst (some p_left) eI r19.2, .lst (some p_takes) eI takes_20, .lst none eI s2.2.2]⟩ _ _
      refine bj_append_p (i := 5) (o := 2) rfl rfl (ej_var (i := 6)) (fun onward_21 => ?_)
      change BJ _ _ _ _ ⟨[.own 0, .bor (eL eI) ways, .bor eI rests, .own 1, .bor eI going, .own 2, .val eI y3], [.lst (some p_left) eI r19.2, .lst (some p_takes) eI takes_20, .lst none eI onward_21]⟩ _ _
      exact bj_weak (le_mk (ks := [0, 1, 2]) (.cons (.own rfl) (.cons .bor (.cons .bor (.cons (.own rfl) (.cons .bor (.cons (.own rfl) (.cons .any .nil))))))) (.keep rfl (.keep rfl (.keep rfl (.nil))))) (bj_nil hN4 ((r19.2, takes_20, onward_21)))
  · change BJ _ _ _ _ ⟨[.own 0, .bor (eL eI) ways, .bor eI rests, .own 1, .bor eI going, .own 2, .any], [.lst (some p_left) eI s2.1, .lst (some p_takes) eI s2.2.1, .lst none eI s2.2.2]⟩ _ _
    exact bj_retMO (i := 5) (k := 2) ((s2.1, s2.2.1)) hR (LeO.keep (k := 0) rfl (LeO.keep (k := 1) rfl .nil)) (by intro q hq; simp only [List.mem_cons, List.not_mem_nil, or_false] at hq; rcases hq with rfl | rfl; exact ⟨0, by decide, _, _, _, rfl⟩; exact ⟨1, by decide, _, _, _, rfl⟩)
def N_lowest_of : List PySem.Str := ["below", "reaches", "found", "reach"]
theorem sc_lowest_of : FnScope N_lowest_of ["below", "reaches"] (defScope s_lowest_of) := ⟨rfl, rfl, rfl, by decide +kernel, rfl, by decide +kernel, by decide +kernel⟩
theorem c_lowest_of {P : Program} {w : World} {K : Frag} {mg : Str → Option Value} {base : Heap} (T : Fx K mg) : Cal P w K mg base "lowest_of" 2 (spF mg (arL eI (arL eI (ar0 (K := K)))) (fun g => m_lowest_of g.1 g.2.1) (rtN (eI (K := K)))) := by
  obtain ⟨fd, F⟩ : ∃ fd, FunD K "lowest_of" "lowest_of" (defArgs s_lowest_of) (defBody s_lowest_of) (defScope s_lowest_of) [] [] (He.ga K "lowest_of") fd := T.def_ 19
  have c_has_any := c_has_any (P := P) (w := w) (base := base) T
  have c_way_of := c_way_of (P := P) (w := w) (base := base) T
  have b_set : mg "set" = none := T.free 77
  have b_sorted : mg "sorted" = none := T.free 78
  refine cal_mk F (fn_ok F sc_lowest_of (fun g => rfl) ?_) (T.glo 19) (fun _ _ _ _ _ _ us hl => match us, hl with | [_, _], _ => rfl)
  intro cdv Ao outer s H E Z Qr D g am hR hN
  obtain ⟨below, reaches, _⟩ := g
  change BJ _ Z Qr D ⟨[.bor eI below, .bor eI reaches, .any, .any], []⟩ (defBody s_lowest_of) (m_lowest_of below reaches)
  refine bj_own (i := 2) am (fj_lst (en := eI) ij_nil) (fun found_1 => ?_)
  change BJ _ _ _ _ ⟨[.bor eI below, .bor eI reaches, .own 0, .any], [.lst none eI found_1]⟩ _ _
  refine bj_fors (S := (List Int)) (is := [3]) (sps := fun (s2 : (List Int)) => ⟨[.bor eI below, .bor eI reaches, .own 0, .any], [.lst none eI s2]⟩) am found_1 (sj_list (kj_fj (fj_sortSet_p b_sorted b_set (lj_bor (i := 1))))) (gj_name (i := 3) am.nd) (le_mk (ks := [0]) (.cons .bor (.cons .bor (.cons (.own rfl) (.cons .any .nil)))) (.keep rfl (.nil))) (fun Z zx y3 s2 Q19 D20 hN4 => ?_) (fun s2 => ?_)
  · have am := am.zx zx
    change BJ _ _ _ _ ⟨[.bor eI below, .bor eI reaches, .own 0, .val eI y3], [.lst none eI s2]⟩ _ _
    refine bj_ifs (S := (List Int)) (sps := fun (s13 : (List Int)) => ⟨[.bor eI below, .bor eI reaches, .own 0, .val eI y3], [.lst none eI s13]⟩) (tj_not (tj_val (ej_call am c_has_any (by decide) (aj_lst (lj_fj (fj_slice (lj_fj (fj_call_p (mf := (fun (g : (List Int) × Int × Unit) => m_way_of g.1 g.2.1)) (g := (below, y3, ())) am c_way_of (by decide) (aj_lst_p (lj_bor (i := 0)) (aj_val_p (ej_var (i := 3)) aj_nil)))) (oj_some_p ej_int) oj_none)) (aj_lst_p (lj_bor (i := 1)) aj_nil))))) (fun s13 => ?_) (fun Q16 D17 hN14 => ?_) (fun Q16 D17 hN14 => ?_)
    · change BJ _ _ _ _ ⟨[.bor eI below, .bor eI reaches, .own 0, .val eI y3], [.lst none eI s13]⟩ _ _
      exact bj_weak (le_mk (ks := [0]) (.cons .bor (.cons .bor (.cons (.own rfl) (.cons .any .nil)))) (.keep rfl (.nil))) (bj_nil hN4 s13)
    · change BJ _ _ _ _ ⟨[.bor eI below, .bor eI reaches, .own 0, .val eI y3], [.lst none eI s2]⟩ _ _
      refine bj_append_p (i := 2) (o := 0) rfl rfl (ej_var (i := 3)) (fun found_15 => ?_)
      change BJ _ _ _ _ ⟨[.bor eI below, .bor eI reaches, .own 0, .val eI y3], [.lst none eI found_15]⟩ _ _
      exact bj_weak (le_mk (ks := [0]) (.cons .bor (.cons .bor (.cons (.own rfl) (.cons .val .nil)))) (.keep rfl (.nil))) (bj_nil hN14 found_15)
    · change BJ _ _ _ _ ⟨[.bor eI below, .bor eI reaches, .own 0, .val eI y3], [.lst none eI s2]⟩ _ _
      exact bj_weak (le_mk (ks := [0]) (.cons .bor (.cons .bor (.cons (.own rfl) (.cons .val .nil)))) (.keep rfl (.nil))) (bj_nil hN14 s2)
  · change BJ _ _ _ _ ⟨[.bor eI below, .bor eI reaches, .own 0, .any], [.lst none eI s2]⟩ _ _
    exact bj_retO (i := 2) (k := 0) hR
def N__law_mixed : List PySem.Str := ["cell", "many", "k"]
theorem sc__law_mixed : FnScope N__law_mixed ["cell", "many"] (defScope s__law_mixed) := ⟨rfl, rfl, rfl, by decide +kernel, rfl, by decide +kernel, by decide +kernel⟩
theorem c__law_mixed {P : Program} {w : World} {K : Frag} {mg : Str → Option Value} {base : Heap} (T : Fx K mg) : Cal P w K mg base "_law_mixed" 2 (spF mg (arV eI (arV eI (ar0 (K := K)))) (fun g => m_law_mixed g.1 g.2.1) (rtN (eI (K := K)))) := by
  obtain ⟨fd, F⟩ : ∃ fd, FunD K "_law_mixed" "_law_mixed" (defArgs s__law_mixed) (defBody s__law_mixed) (defScope s__law_mixed) [] [] (He.ga K "_law_mixed") fd := T.def_ 24
  have c__law_draw := c__law_draw (P := P) (w := w) (base := base) T
  have b_range : mg "range" = none := T.free 76
  refine cal_mk F (fn_ok F sc__law_mixed (fun g => rfl) ?_) (T.glo 24) (fun _ _ _ _ _ _ us hl => match us, hl with | [_, _], _ => rfl)
  intro cdv Ao outer s H E Z Qr D g am hR hN
  obtain ⟨cell, many, _⟩ := g
  change BJ _ Z Qr D ⟨[.val eI cell, .val eI many, .any], []⟩ (defBody s__law_mixed) (m_law_mixed cell many)
  exact bj_retF hR (fj_lc (bd := fun (y1 : Int) sl => (sl.set 2 (.val eI y1))) (en := eI) (en' := eI) (own := [("k", 2)]) (is := [2]) am (blkOk_by (N := N__law_mixed) (sc := defScope s__law_mixed) (by decide +kernel)) (by exact (sj_range1_p b_range (ej_var (i := 1)))) (by exact fun s1 H1 C1 cl1 fp1 => (gj_name (i := 2) (am.blk s1 H1 C1 cl1 fp1).nd)) (by exact fun y1 s1 H1 C1 cl1 fp1 => (ej_call_p (mf := (fun (g : Int × Int × Unit) => m_law_draw g.1 g.2.1)) (g := (cell, y1, ())) (am.blk s1 H1 C1 cl1 fp1) c__law_draw (by decide) (aj_val_p (ej_var (i := 0)) (aj_val_p (ej_var (i := 2)) aj_nil)))))
def N_natural_of : List PySem.Str := ["below", "springs", "water", "reach"]
theorem sc_natural_of : FnScope N_natural_of ["below", "springs"] (defScope s_natural_of) := ⟨rfl, rfl, rfl, by decide +kernel, rfl, by decide +kernel, by decide +kernel⟩
theorem c_natural_of {P : Program} {w : World} {K : Frag} {mg : Str → Option Value} {base : Heap} (T : Fx K mg) : Cal P w K mg base "natural_of" 3 (spF mg (arL eI (arL eI (ar0 (K := K)))) (fun g => m_natural_of g.1 g.2.1) (rtN (eI (K := K)))) := by
  obtain ⟨fd, F⟩ : ∃ fd, FunD K "natural_of" "natural_of" (defArgs s_natural_of) (defBody s_natural_of) (defScope s_natural_of) [] [] (He.ga K "natural_of") fd := T.def_ 3
  have c_tops_first := c_tops_first (P := P) (w := w) (base := base) T
  have b_list : mg "list" = none := T.free 74
  refine cal_mk F (fn_ok F sc_natural_of (fun g => rfl) ?_) (T.glo 3) (fun _ _ _ _ _ _ us hl => match us, hl with | [_, _], _ => rfl)
  intro cdv Ao outer s H E Z Qr D g am hR hN
  obtain ⟨below, springs, _⟩ := g
  change BJ _ Z Qr D ⟨[.bor eI below, .bor eI springs, .any, .any], []⟩ (defBody s_natural_of) (m_natural_of below springs)
  refine bj_own (i := 2) am (fj_list b_list (lj_bor (i := 1))) (fun water_1 => ?_)
  change BJ _ _ _ _ ⟨[.bor eI below, .bor eI springs, .own 0, .any], [.lst none eI water_1]⟩ _ _
  refine bj_fors (S := (List Int)) (is := [3]) (sps := fun (s2 : (List Int)) => ⟨[.bor eI below, .bor eI springs, .own 0, .any], [.lst none eI s2]⟩) am water_1 (sj_list (kj_fj (fj_call_p (mf := (fun (g : (List Int) × Unit) => m_tops_first g.1)) (g := (below, ())) am c_tops_first (by decide) (aj_lst_p (lj_bor (i := 0)) aj_nil)))) (gj_name (i := 3) am.nd) (le_mk (ks := [0]) (.cons .bor (.cons .bor (.cons (.own rfl) (.cons .any .nil)))) (.keep rfl (.nil))) (fun Z zx y3 s2 Q17 D18 hN4 => ?_) (fun s2 => ?_)
  · have am := am.zx zx
    change BJ _ _ _ _ ⟨[.bor eI below, .bor eI springs, .own 0, .val eI y3], [.lst none eI s2]⟩ _ _
    refine bj_ifs (S := (List Int)) (sps := fun (s8 : (List Int)) => ⟨[.bor eI below, .bor eI springs, .own 0, .val eI y3], [.lst none eI s8]⟩) (tj_cmp (cj_ne scI (ej_ix_p (lj_bor (i := 0)) (ej_var (i := 3))) (ej_neg_p ej_int))) (fun s8 => ?_) (fun Q14 D15 hN9 => ?_) (fun Q14 D15 hN9 => ?_)
    · change BJ _ _ _ _ ⟨[.bor eI below, .bor eI springs, .own 0, .val eI y3], [.lst none eI s8]⟩ _ _
      exact bj_weak (le_mk (ks := [0]) (.cons .bor (.cons .bor (.cons (.own rfl) (.cons .any .nil)))) (.keep rfl (.nil))) (bj_nil hN4 s8)
    · change BJ _ _ _ _ ⟨[.bor eI below, .bor eI springs, .own 0, .val eI y3], [.lst none eI s2]⟩ _ _
      refine bj_augi (i := 2) (o := 0) (f := fun i j => i + j) ip_add rfl rfl (ej_ix_p (lj_bor (i := 0)) (ej_var (i := 3))) (ej_ix_p (lj_own (i := 2) (k := 0)) (ej_var (i := 3))) (fun water_10 => ?_)
      change BJ _ _ _ _ ⟨[.bor eI below, .bor eI springs, .own 0, .val eI y3], [.lst none eI water_10]⟩ _ _
      exact bj_weak (le_mk (ks := [0]) (.cons .bor (.cons .bor (.cons (.own rfl) (.cons .val .nil)))) (.keep rfl (.nil))) (bj_nil hN9 water_10)
    · change BJ _ _ _ _ ⟨[.bor eI below, .bor eI springs, .own 0, .val eI y3], [.lst none eI s2]⟩ _ _
      exact bj_weak (le_mk (ks := [0]) (.cons .bor (.cons .bor (.cons (.own rfl) (.cons .val .nil)))) (.keep rfl (.nil))) (bj_nil hN9 s2)
  · change BJ _ _ _ _ ⟨[.bor eI below, .bor eI springs, .own 0, .any], [.lst none eI s2]⟩ _ _
    exact bj_retO (i := 2) (k := 0) hR
def N_reaches_of : List PySem.Str := ["below", "one"]
theorem sc_reaches_of : FnScope N_reaches_of ["below", "one"] (defScope s_reaches_of) := ⟨rfl, rfl, rfl, by decide +kernel, rfl, by decide +kernel, by decide +kernel⟩
theorem c_reaches_of {P : Program} {w : World} {K : Frag} {mg : Str → Option Value} {base : Heap} (T : Fx K mg) : Cal P w K mg base "reaches_of" 3 (spF mg (arL eI (arV (eT (vsC eI (vsC eI (vsC eI (vs1 eI))))) (ar0 (K := K)))) (fun g => m_reaches_of g.1 g.2.1) (rtN (eI (K := K)))) := by
  obtain ⟨fd, F⟩ : ∃ fd, FunD K "reaches_of" "reaches_of" (defArgs s_reaches_of) (defBody s_reaches_of) (defScope s_reaches_of) [] [] (He.ga K "reaches_of") fd := T.def_ 4
  have c_stretch_of := c_stretch_of (P := P) (w := w) (base := base) T
  refine cal_mk F (fn_ok F sc_reaches_of (fun g => rfl) ?_) (T.glo 4) (fun _ _ _ _ _ _ us hl => match us, hl with | [_, _], _ => rfl)
  intro cdv Ao outer s H E Z Qr D g am hR hN
  obtain ⟨below, one, _⟩ := g
  change BJ _ Z Qr D ⟨[.bor eI below, .val (eT (vsC eI (vsC eI (vsC eI (vs1 eI))))) one], []⟩ (defBody s_reaches_of) (m_reaches_of below one)
  exact bj_retF hR (fj_call_p (mf := (fun (g : (List Int) × Int × Int × Unit) => m_stretch_of g.1 g.2.1 g.2.2.1)) (g := (below, one.2.1, one.2.2.1, ())) am c_stretch_of (by decide) (aj_lst_p (lj_bor (i := 0)) (aj_val_p (ej_tix_p 1 (f := fun (g : Int × Int × Int × Int) => g.2.1) (ej_var (i := 1)) (vatS vat0)) (aj_val_p (ej_tix_p 2 (f := fun (g : Int × Int × Int × Int) => g.2.2.1) (ej_var (i := 1)) (vatS (vatS vat0))) aj_nil))))
def N_deal_turns : List PySem.Str := ["free", "ways", "rests", "left", "takes", "going", "wanted", "turns", "k"]
theorem sc_deal_turns : FnScope N_deal_turns ["free", "ways", "rests"] (defScope s_deal_turns) := ⟨rfl, rfl, rfl, by decide +kernel, rfl, by decide +kernel, by decide +kernel⟩
theorem c_deal_turns {P : Program} {w : World} {K : Frag} {mg : Str → Option Value} {base : Heap} (T : Fx K mg) : Cal P w K mg base "deal_turns" 3 (spF mg (arL eI (arL (eL eI) (arL eI (ar0 (K := K))))) (fun g => m_deal_turns g.1 g.2.1 g.2.2.1) (rtV (eT (vsC (eL (eI (K := K))) (vs1 (eL (eI (K := K)))))))) := by
  obtain ⟨fd, F⟩ : ∃ fd, FunD K "deal_turns" "deal_turns" (defArgs s_deal_turns) (defBody s_deal_turns) (defScope s_deal_turns) [] [] (He.ga K "deal_turns") fd := T.def_ 13
  have c_one_turn := c_one_turn (P := P) (w := w) (base := base) T
  have c_take_out := c_take_out (P := P) (w := w) (base := base) T
  have c_whole_turns := c_whole_turns (P := P) (w := w) (base := base) T
  have b_len : mg "len" = none := T.free 73
  have b_list : mg "list" = none := T.free 74
  have b_range : mg "range" = none := T.free 76
  refine cal_mk F (fn_ok F sc_deal_turns (fun g => rfl) ?_) (T.glo 13) (fun _ _ _ _ _ _ us hl => match us, hl with | [_, _, _], _ => rfl)
  intro cdv Ao outer s H E Z Qr D g am hR hN
  obtain ⟨free, ways, rests, _⟩ := g
  change BJ _ Z Qr D ⟨[.bor eI free, .bor (eL eI) ways, .bor eI rests, .any, .any, .any, .any, .any, .any], []⟩ (defBody s_deal_turns) (m_deal_turns free ways rests)
  refine bj_own (i := 3) am (fj_list b_list (lj_bor (i := 0))) (fun left_1 => ?_)
  change BJ _ _ _ _ ⟨[.bor eI free, .bor (eL eI) ways, .bor eI rests, .own 0, .any, .any, .any, .any, .any], [.lst none eI left_1]⟩ _ _
  refine bj_own (i := 4) am (fj_rep_p (mj_fj (fj_lst (en := eI) (ij_cons_p ej_int ij_nil))) (ej_len_p b_len (lj_bor (i := 1)))) (fun takes_2 => ?_)
  change BJ _ _ _ _ ⟨[.bor eI free, .bor (eL eI) ways, .bor eI rests, .own 0, .own 1, .any, .any, .any, .any], [.lst none eI left_1, .lst none eI takes_2]⟩ _ _
  refine bj_asg (i := 5) am (ej_fj (fj_listR_p b_list b_range (ej_len_p b_len (lj_bor (i := 1))))) (fun going_3 => ?_)
  change BJ _ _ _ _ ⟨[.bor eI free, .bor (eL eI) ways, .bor eI rests, .own 0, .own 1, .val (eL eI) going_3, .any, .any, .any], [.lst none eI left_1, .lst none eI takes_2]⟩ _ _
  refine bj_whiles (S := (List Int) × (List Int) × (List Int)) (sps := fun (s4 : (List Int) × (List Int) × (List Int)) => ⟨[.bor eI free, .bor (eL eI) ways, .bor eI rests, .own 0, .own 1, .val (eL eI) s4.2.2, .any, .any, .any], [.lst none eI s4.1, .lst none eI s4.2.1]⟩) am fuel ((left_1, takes_2, going_3)) (le_mk (ks := [0, 1]) (.cons .bor (.cons .bor (.cons .bor (.cons (.own rfl) (.cons (.own rfl) (.cons .val (.cons .any (.cons .any (.cons .any .nil))))))))) (.keep rfl (.keep rfl (.nil)))) (fun s4 => (tj_cmp (cj_gt_p (ej_len_p b_len (lj_ej (ej_var (i := 5)))) ej_int))) (fun s4 Q30 D31 hN5 => ?_) (fun s4 => ?_)
  · change BJ _ _ _ _ ⟨[.bor eI free, .bor (eL eI) ways, .bor eI rests, .own 0, .own 1, .val (eL eI) s4.2.2, .any, .any, .any], [.lst none eI s4.1, .lst none eI s4.2.1]⟩ _ _
    refine bj_lcF_sp (i := 6) (bd := fun (y6 : Int) sl => (sl.set 8 (.val eI y6))) (en := eI) (en' := eI) (own := [("k", 8)]) (is := [8]) am (blkOk_by (N := N_deal_turns) (sc := defScope s_deal_turns) (by decide +kernel)) (by exact (sj_list (kj_ej (ej_var (i := 5))))) (by exact fun s1 H1 C1 cl1 fp1 => (gj_name (i := 8) (am.blk s1 H1 C1 cl1 fp1).nd)) (by exact fun y6 s1 H1 C1 cl1 fp1 => (ej_sub (ej_ix_p (lj_bor (i := 2)) (ej_var (i := 8))) (ej_ix_p (lj_own (i := 4) (k := 1)) (ej_var (i := 8))))) (fun wanted_9 => ?_)
    change BJ _ _ _ _ ⟨[.bor eI free, .bor (eL eI) ways, .bor eI rests, .own 0, .own 1, .val (eL eI) s4.2.2, .val (eL eI) wanted_9, .any, .any], [.lst none eI s4.1, .lst none eI s4.2.1]⟩ _ _
    refine bj_asg (i := 7) am (ej_call am c_whole_turns (by decide) (aj_lst (lj_own (i := 3) (k := 0)) (aj_lst (lj_fj (fj_lc_sp (bd := fun (y10 : Int) sl => (sl.set 8 (.val eI y10))) (en := eI) (en' := (eL eI)) (own := [("k", 8)]) (is := [8]) am (blkOk_by (N := N_deal_turns) (sc := defScope s_deal_turns) (by decide +kernel)) (by exact (sj_list (kj_ej (ej_var (i := 5))))) (by exact fun s1 H1 C1 cl1 fp1 => (gj_name (i := 8) (am.blk s1 H1 C1 cl1 fp1).nd)) (by exact fun y10 s1 H1 C1 cl1 fp1 => (ej_ix_p (lj_bor (i := 1)) (ej_var (i := 8)))))) (aj_lst_p (lj_ej (ej_var (i := 6))) aj_nil)))) (fun turns_16 => ?_)
    change BJ _ _ _ _ ⟨[.bor eI free, .bor (eL eI) ways, .bor eI rests, .own 0, .own 1, .val (eL eI) s4.2.2, .val (eL eI) wanted_9, .val eI turns_16, .any], [.lst none eI s4.1, .lst none eI s4.2.1]⟩ _ _
    refine bj_fors_p (S := (List Int) × (List Int)) (is := [8]) (sps := fun (s17 : (List Int) × (List Int)) => ⟨[.bor eI free, .bor (eL eI) ways, .bor eI rests, .own 0, .own 1, .val (eL eI) s4.2.2, .val (eL eI) wanted_9, .val eI turns_16, .any], [.lst none eI s17.1, .lst none eI s17.2]⟩) am ((s4.1, s4.2.1)) (sj_list (kj_ej (ej_var (i := 5)))) (gj_name (i := 8) am.nd) (le_mk (ks := [0, 1]) (.cons .bor (.cons .bor (.cons .bor (.cons (.own rfl) (.cons (.own rfl) (.cons .val (.cons .val (.cons .val (.cons .any .nil))))))))) (.keep rfl (.keep rfl (.nil)))) (fun Z zx y18 s17 Q28 D29 hN19 => ?_) (fun s17 => ?_)
    · have am := am.zx zx
      change BJ _ _ _ _ ⟨[.bor eI free, .bor (eL eI) ways, .bor eI rests, .own 0, .own 1, .val (eL eI) s4.2.2, .val (eL eI) wanted_9, .val eI turns_16, .val eI y18], [.lst none eI s17.1, .lst none eI s17.2]⟩ _ _
      refine bj_exM (mf := fun (g : (List Int) × (List Int) × Int × Unit) => m_take_out g.1 g.2.1 g.2.2.1) am c_take_out (by decide) (amj_own (i := 3) (k := 0) (amj_lst (kj_ej (ej_ix_p (lj_bor (i := 1)) (ej_var (i := 8)))) (amj_val_p (ej_var (i := 7)) amj_nil)) (by decide)) (mst1 (k := 0) rfl) (fun r25 => ?_)
      change BJ _ _ _ _ ⟨[.bor eI free, .bor (eL eI) ways, .bor eI rests, .own 0, .own 1, .val (eL eI) s4.2.2, .val (eL eI) wanted_9, .val eI turns_16, .val eI y18], [.lst none eI r25.2, .lst none eI s17.2]⟩ _ _
      refine bj_augi_p (i := 4) (o := 1) (f := fun i j => i + j) ip_add rfl rfl (ej_var (i := 8)) (ej_var (i := 7)) (fun takes_26 => ?_)
      change BJ _ _ _ _ ⟨[.bor eI free, .bor (eL eI) ways, .bor eI rests, .own 0, .own 1, .val (eL eI) s4.2.2, .val (eL eI) wanted_9, .val eI turns_16, .val eI y18], [.lst none eI r25.2, .lst none eI takes_26]⟩ _ _
      exact bj_weak (le_mk (ks := [0, 1]) (.cons .bor (.cons .bor (.cons .bor (.cons (.own rfl) (.cons (.own rfl) (.cons .val (.cons .val (.cons .val (.cons .any .nil))))))))) (.keep rfl (.keep rfl (.nil)))) (bj_nil hN19 ((r25.2, takes_26)))
    · change BJ _ _ _ _ ⟨[.bor eI free, .bor (eL eI) ways, .bor eI rests, .own 0, .own 1, .val (eL eI) s4.2.2, .val (eL eI) wanted_9, .val eI turns_16, .any], [.lst none eI s17.1, .lst none eI s17.2]⟩ _ _
      refine bj_asMN_p (i := 5) (mf := fun (g : (List Int) × (List (List Int)) × (List Int) × (List Int) × (List Int) × Unit) => m_one_turn g.1 g.2.1 g.2.2.1 g.2.2.2.1 g.2.2.2.2.1) (g := (s17.1, ways, rests, s17.2, s4.2.2, ())) am c_one_turn (by decide) (amj_own_p (i := 3) (k := 0) (amj_lst_p (kj_bor (i := 1)) (amj_lst_p (kj_bor (i := 2)) (amj_own_p (i := 4) (k := 1) (amj_lst_p (kj_ej (ej_var (i := 5))) amj_nil) (by decide)))) (by decide)) (mst2 (k := 0) (k' := 1) rfl rfl) (fun r27 => ?_)
      change BJ _ _ _ _ ⟨[.bor eI free, .bor (eL eI) ways, .bor eI rests, .own 0, .own 1, .own 2, .val (eL eI) wanted_9, .val eI turns_16, .any], [.lst none eI r27.2.1, .lst none eI r27.2.2, .lst none eI r27.1]⟩ _ _
      refine bj_frz (k := 2) (en := eI) rfl ?_
      change BJ _ _ _ _ ⟨[.bor eI free, .bor (eL eI) ways, .bor eI rests, .own 0, .own 1, .val (eL eI) r27.1, .val (eL eI) wanted_9, .val eI turns_16, .any], [.lst none eI r27.2.1, .lst none eI r27.2.2, .dead]⟩ _ _
      exact bj_weak (le_mk (ks := [0, 1]) (.cons .bor (.cons .bor (.cons .bor (.cons (.own rfl) (.cons (.own rfl) (.cons .val (.cons .any (.cons .any (.cons .any .nil))))))))) (.keep rfl (.keep rfl (.nil)))) (bj_nil hN5 ((r27.2.1, r27.2.2, r27.1)))
  · change BJ _ _ _ _ ⟨[.bor eI free, .bor (eL eI) ways, .bor eI rests, .own 0, .own 1, .val (eL eI) s4.2.2, .any, .any, .any], [.lst none eI s4.1, .lst none eI s4.2.1]⟩ _ _
    refine bj_frz (k := 0) (en := eI) rfl ?_
    change BJ _ _ _ _ ⟨[.bor eI free, .bor (eL eI) ways, .bor eI rests, .val (eL eI) s4.1, .own 1, .val (eL eI) s4.2.2, .any, .any, .any], [.dead, .lst none eI s4.2.1]⟩ _ _
    refine bj_frz (k := 1) (en := eI) rfl ?_
    change BJ _ _ _ _ ⟨[.bor eI free, .bor (eL eI) ways, .bor eI rests, .val (eL eI) s4.1, .val (eL eI) s4.2.1, .val (eL eI) s4.2.2, .any, .any, .any], [.dead, .dead]⟩ _ _
    exact bj_ret hR (ej_tup (vj_cons_p (ej_var (i := 4)) (vj_one (ej_var (i := 3)))))
def N__law_river : List PySem.Str := ["cell", "size", "xs", "step", "spots", "below", "k", "number"]
theorem sc__law_river : FnScope N__law_river ["cell"] (defScope s__law_river) := ⟨rfl, rfl, rfl, by decide +kernel, rfl, by decide +kernel, by decide +kernel⟩
theorem c__law_river {P : Program} {w : World} {K : Frag} {mg : Str → Option Value} {base : Heap} (T : Fx K mg) : Cal P w K mg base "_law_river" 3 (spF mg (arV eI (ar0 (K := K))) (fun g => m_law_river g.1) (rtN (eI (K := K)))) := by
  obtain ⟨fd, F⟩ : ∃ fd, FunD K "_law_river" "_law_river" (defArgs s__law_river) (defBody s__law_river) (defScope s__law_river) [] [] (He.ga K "_law_river") fd := T.def_ 25
  have c__law_mixed := c__law_mixed (P := P) (w := w) (base := base) T
  have b_range : mg "range" = none := T.free 76
  refine cal_mk F (fn_ok F sc__law_river (fun g => rfl) ?_) (T.glo 25) (fun _ _ _ _ _ _ us hl => match us, hl with | [_], _ => rfl)
  intro cdv Ao outer s H E Z Qr D g am hR hN
  obtain ⟨cell, _⟩ := g
  change BJ _ Z Qr D ⟨[.val eI cell, .any, .any, .any, .any, .any, .any, .any], []⟩ (defBody s__law_river) (m_law_river cell)
  refine bj_asg (i := 1) am (ej_ix_p (lj_fj (fj_lst (en := eI) (ij_cons_p ej_int (ij_cons_p ej_int (ij_cons_p ej_int (ij_cons_p ej_int (ij_cons_p ej_int (ij_cons_p ej_int (ij_cons_p ej_int (ij_cons_p (ej_sub_p ej_int (ej_mod_lp (ej_div_lp (ej_var (i := 0)) ej_int) ej_int)) ij_nil)))))))))) (ej_mod_lp (ej_var (i := 0)) ej_int)) (fun size_1 => ?_)
  change BJ _ _ _ _ ⟨[.val eI cell, .val eI size_1, .any, .any, .any, .any, .any, .any], []⟩ _ _
  refine bj_asg (i := 2) am (ej_fj (fj_call_p (mf := (fun (g : Int × Int × Unit) => m_law_mixed g.1 g.2.1)) (g := ((cell / (8 : Int)), (size_1 + (2 : Int)), ())) am c__law_mixed (by decide) (aj_val_p (ej_div_lp (ej_var (i := 0)) ej_int) (aj_val_p (ej_add_p (ej_var (i := 1)) ej_int) aj_nil)))) (fun xs_2 => ?_)
  change BJ _ _ _ _ ⟨[.val eI cell, .val eI size_1, .val (eL eI) xs_2, .any, .any, .any, .any, .any], []⟩ _ _
  refine bj_asg (i := 3) am (ej_add ej_int (ej_mul (ej_mod_l (ej_ix_p (lj_ej (ej_var (i := 2))) ej_int) ej_int) (ej_sub_p (ej_var (i := 1)) ej_int))) (fun step_8 => ?_)
  change BJ _ _ _ _ ⟨[.val eI cell, .val eI size_1, .val (eL eI) xs_2, .val eI step_8, .any, .any, .any, .any], []⟩ _ _
  refine bj_lcF (i := 4) (bd := fun (y9 : Int) sl => (sl.set 6 (.val eI y9))) (en := eI) (en' := eI) (own := [("k", 6)]) (is := [6]) am (blkOk_by (N := N__law_river) (sc := defScope s__law_river) (by decide +kernel)) (by exact (sj_range1_p b_range (ej_var (i := 1)))) (by exact fun s1 H1 C1 cl1 fp1 => (gj_name (i := 6) (am.blk s1 H1 C1 cl1 fp1).nd)) (by exact fun y9 s1 H1 C1 cl1 fp1 => (ej_mod (ej_add (ej_ix_p (lj_ej (ej_var (i := 2))) ej_int) (ej_mul_p (ej_var (i := 3)) (ej_var (i := 6)))) (ej_var (i := 1)))) (fun spots_15 => ?_)
  change BJ _ _ _ _ ⟨[.val eI cell, .val eI size_1, .val (eL eI) xs_2, .val eI step_8, .val (eL eI) spots_15, .any, .any, .any], []⟩ _ _
  refine bj_own (i := 5) am (fj_rep_p (mj_fj (fj_lst (en := eI) (ij_cons_p (ej_neg_p ej_int) ij_nil))) (ej_var (i := 1))) (fun below_16 => ?_)
  change BJ _ _ _ _ ⟨[.val eI cell, .val eI size_1, .val (eL eI) xs_2, .val eI step_8, .val (eL eI) spots_15, .own 0, .any, .any], [.lst none eI below_16]⟩ _ _
  refine bj_fors (S := (List Int)) (is := [6]) (sps := fun (s17 : (List Int)) => ⟨[.val eI cell, .val eI size_1, .val (eL eI) xs_2, .val eI step_8, .val (eL eI) spots_15, .own 0, .any, .any], [.lst none eI s17]⟩) am below_16 (sj_range2_p b_range ej_int (ej_var (i := 1))) (gj_name (i := 6) am.nd) (le_mk (ks := [0]) (.cons .val (.cons .val (.cons .val (.cons .val (.cons .val (.cons (.own rfl) (.cons .any (.cons .any .nil)))))))) (.keep rfl (.nil))) (fun Z zx y18 s17 Q37 D38 hN19 => ?_) (fun s17 => ?_)
  · have am := am.zx zx
    change BJ _ _ _ _ ⟨[.val eI cell, .val eI size_1, .val (eL eI) xs_2, .val eI step_8, .val (eL eI) spots_15, .own 0, .val eI y18, .any], [.lst none eI s17]⟩ _ _
    refine bj_asg (i := 7) am (ej_ix_p (lj_ej (ej_var (i := 2))) (ej_add_p (ej_var (i := 6)) ej_int)) (fun number_21 => ?_)
    change BJ _ _ _ _ ⟨[.val eI cell, .val eI size_1, .val (eL eI) xs_2, .val eI step_8, .val (eL eI) spots_15, .own 0, .val eI y18, .val eI number_21], [.lst none eI s17]⟩ _ _
    refine bj_ifs_p (S := (List Int)) (sps := fun (s22 : (List Int)) => ⟨[.val eI cell, .val eI size_1, .val (eL eI) xs_2, .val eI step_8, .val (eL eI) spots_15, .own 0, .val eI y18, .val eI number_21], [.lst none eI s22]⟩) (tj_wj (wj_or_p (tj_cmp (cj_gt_p (ej_mod_lp (ej_var (i := 7)) ej_int) ej_int)) (wj_or1 (tj_cmp (cj_eq_p scI (ej_var (i := 6)) ej_int))))) (fun s22 => ?_) (fun Q35 D36 hN23 => ?_) (fun Q35 D36 hN23 => ?_)
    · change BJ _ _ _ _ ⟨[.val eI cell, .val eI size_1, .val (eL eI) xs_2, .val eI step_8, .val (eL eI) spots_15, .own 0, .val eI y18, .val eI number_21], [.lst none eI s22]⟩ _ _
      exact bj_weak (le_mk (ks := [0]) (.cons .val (.cons .val (.cons .val (.cons .val (.cons .val (.cons (.own rfl) (.cons .any (.cons .any .nil)))))))) (.keep rfl (.nil))) (bj_nil hN19 s22)
    · change BJ _ _ _ _ ⟨[.val eI cell, .val eI size_1, .val (eL eI) xs_2, .val eI step_8, .val (eL eI) spots_15, .own 0, .val eI y18, .val eI number_21], [.lst none eI s17]⟩ _ _
      refine bj_seti (i := 5) (o := 0) rfl rfl (ej_ix (lj_ej (ej_var (i := 4))) (ej_ix (lj_fj (fj_lst (en := eI) (ij_cons (ej_sub_p (ej_var (i := 6)) ej_int) (ij_cons (ej_mod_p (ej_div_lp (ej_var (i := 7)) ej_int) (ej_var (i := 6))) ij_nil)))) (ej_mod_lp (ej_div_lp (ej_var (i := 7)) ej_int) ej_int))) (ej_ix_p (lj_ej (ej_var (i := 4))) (ej_var (i := 6))) (fun below_32 => ?_)
      change BJ _ _ _ _ ⟨[.val eI cell, .val eI size_1, .val (eL eI) xs_2, .val eI step_8, .val (eL eI) spots_15, .own 0, .val eI y18, .val eI number_21], [.lst none eI below_32]⟩ _ _
      exact bj_weak (le_mk (ks := [0]) (.cons .val (.cons .val (.cons .val (.cons .val (.cons .val (.cons (.own rfl) (.cons .val (.cons .val .nil)))))))) (.keep rfl (.nil))) (bj_nil hN23 below_32)
    · change BJ _ _ _ _ ⟨[.val eI cell, .val eI size_1, .val (eL eI) xs_2, .val eI step_8, .val (eL eI) spots_15, .own 0, .val eI y18, .val eI number_21], [.lst none eI s17]⟩ _ _
      exact bj_weak (le_mk (ks := [0]) (.cons .val (.cons .val (.cons .val (.cons .val (.cons .val (.cons (.own rfl) (.cons .val (.cons .val .nil)))))))) (.keep rfl (.nil))) (bj_nil hN23 s17)
  · change BJ _ _ _ _ ⟨[.val eI cell, .val eI size_1, .val (eL eI) xs_2, .val eI step_8, .val (eL eI) spots_15, .own 0, .any, .any], [.lst none eI s17]⟩ _ _
    exact bj_retO (i := 5) (k := 0) hR
def N__law_springs : List PySem.Str := ["cell", "size", "kind", "found", "x"]
theorem sc__law_springs : FnScope N__law_springs ["cell", "size", "kind"] (defScope s__law_springs) := ⟨rfl, rfl, rfl, by decide +kernel, rfl, by decide +kernel, by decide +kernel⟩
theorem c__law_springs {P : Program} {w : World} {K : Frag} {mg : Str → Option Value} {base : Heap} (T : Fx K mg) : Cal P w K mg base "_law_springs" 3 (spF mg (arV eI (arV eI (arV eI (ar0 (K := K))))) (fun g => m_law_springs g.1 g.2.1 g.2.2.1) (rtN (eI (K := K)))) := by
  obtain ⟨fd, F⟩ : ∃ fd, FunD K "_law_springs" "_law_springs" (defArgs s__law_springs) (defBody s__law_springs) (defScope s__law_springs) [] [] (He.ga K "_law_springs") fd := T.def_ 26
  have c__law_mixed := c__law_mixed (P := P) (w := w) (base := base) T
  refine cal_mk F (fn_ok F sc__law_springs (fun g => rfl) ?_) (T.glo 26) (fun _ _ _ _ _ _ us hl => match us, hl with | [_, _, _], _ => rfl)
  intro cdv Ao outer s H E Z Qr D g am hR hN
  obtain ⟨cell, size, kind, _⟩ := g
  change BJ _ Z Qr D ⟨[.val eI cell, .val eI size, .val eI kind, .any, .any], []⟩ (defBody s__law_springs) (m_law_springs cell size kind)
  refine bj_own (i := 3) am (fj_lst (en := eI) ij_nil) (fun found_1 => ?_)
  change BJ _ _ _ _ ⟨[.val eI cell, .val eI size, .val eI kind, .own 0, .any], [.lst none eI found_1]⟩ _ _
  refine bj_fors (S := (List Int)) (is := [4]) (sps := fun (s2 : (List Int)) => ⟨[.val eI cell, .val eI size, .val eI kind, .own 0, .any], [.lst none eI s2]⟩) am found_1 (sj_list (kj_fj (fj_call_p (mf := (fun (g : Int × Int × Unit) => m_law_mixed g.1 g.2.1)) (g := (cell, size, ())) am c__law_mixed (by decide) (aj_val_p (ej_var (i := 0)) (aj_val_p (ej_var (i := 1)) aj_nil))))) (gj_name (i := 4) am.nd) (le_mk (ks := [0]) (.cons .val (.cons .val (.cons .val (.cons (.own rfl) (.cons .any .nil))))) (.keep rfl (.nil))) (fun Z zx y3 s2 Q31 D32 hN4 => ?_) (fun s2 => ?_)
  · have am := am.zx zx
    change BJ _ _ _ _ ⟨[.val eI cell, .val eI size, .val eI kind, .own 0, .val eI y3], [.lst none eI s2]⟩ _ _
    refine bj_ifs_p (S := (List Int)) (sps := fun (s6 : (List Int)) => ⟨[.val eI cell, .val eI size, .val eI kind, .own 0, .val eI y3], [.lst none eI s6]⟩) (tj_cmp (cj_eq_p scI (ej_var (i := 2)) ej_int)) (fun s6 => ?_) (fun Q29 D30 hN7 => ?_) (fun Q29 D30 hN7 => ?_)
    · change BJ _ _ _ _ ⟨[.val eI cell, .val eI size, .val eI kind, .own 0, .val eI y3], [.lst none eI s6]⟩ _ _
      exact bj_weak (le_mk (ks := [0]) (.cons .val (.cons .val (.cons .val (.cons (.own rfl) (.cons .any .nil))))) (.keep rfl (.nil))) (bj_nil hN4 s6)
    · change BJ _ _ _ _ ⟨[.val eI cell, .val eI size, .val eI kind, .own 0, .val eI y3], [.lst none eI s2]⟩ _ _
      refine bj_append_p (i := 3) (o := 0) rfl rfl (ej_mod_lp (ej_var (i := 4)) ej_int) (fun found_8 => ?_)
      change BJ _ _ _ _ ⟨[.val eI cell, .val eI size, .val eI kind, .own 0, .val eI y3], [.lst none eI found_8]⟩ _ _
      exact bj_weak (le_mk (ks := [0]) (.cons .val (.cons .val (.cons .val (.cons (.own rfl) (.cons .val .nil))))) (.keep rfl (.nil))) (bj_nil hN7 found_8)
    · change BJ _ _ _ _ ⟨[.val eI cell, .val eI size, .val eI kind, .own 0, .val eI y3], [.lst none eI s2]⟩ _ _
      refine bj_ifs_p (S := (List Int)) (sps := fun (s9 : (List Int)) => ⟨[.val eI cell, .val eI size, .val eI kind, .own 0, .val eI y3], [.lst none eI s9]⟩) (tj_cmp (cj_eq_p scI (ej_var (i := 2)) ej_int)) (fun s9 => ?_) (fun Q27 D28 hN10 => ?_) (fun Q27 D28 hN10 => ?_)
      · change BJ _ _ _ _ ⟨[.val eI cell, .val eI size, .val eI kind, .own 0, .val eI y3], [.lst none eI s9]⟩ _ _
        exact bj_weak (le_mk (ks := [0]) (.cons .val (.cons .val (.cons .val (.cons (.own rfl) (.cons .val .nil))))) (.keep rfl (.nil))) (bj_nil hN7 s9)
      · change BJ _ _ _ _ ⟨[.val eI cell, .val eI size, .val eI kind, .own 0, .val eI y3], [.lst none eI s2]⟩ _ _
        refine bj_append (i := 3) (o := 0) rfl rfl (ej_mod_l (ej_add (ej_var (i := 0)) (ej_mul_p (ej_var (i := 4)) ej_int)) (ej_add_p (ej_pow_l 12 ej_int) ej_int)) (fun found_14 => ?_)
        change BJ _ _ _ _ ⟨[.val eI cell, .val eI size, .val eI kind, .own 0, .val eI y3], [.lst none eI found_14]⟩ _ _
        exact bj_weak (le_mk (ks := [0]) (.cons .val (.cons .val (.cons .val (.cons (.own rfl) (.cons .val .nil))))) (.keep rfl (.nil))) (bj_nil hN10 found_14)
      · change BJ _ _ _ _ ⟨[.val eI cell, .val eI size, .val eI kind, .own 0, .val eI y3], [.lst none eI s2]⟩ _ _
        refine bj_append (i := 3) (o := 0) rfl rfl (ej_ix (lj_fj (fj_lst (en := eI) (ij_cons ej_int (ij_cons ej_int (ij_cons (ej_mod_l (ej_mul_p (ej_var (i := 4)) ej_int) (ej_add_p (ej_pow_l 12 ej_int) ej_int)) ij_nil))))) (ej_mod_lp (ej_div_lp (ej_var (i := 4)) ej_int) ej_int)) (fun found_25 => ?_)
        change BJ _ _ _ _ ⟨[.val eI cell, .val eI size, .val eI kind, .own 0, .val eI y3], [.lst none eI found_25]⟩ _ _
        exact bj_weak (le_mk (ks := [0]) (.cons .val (.cons .val (.cons .val (.cons (.own rfl) (.cons .val .nil))))) (.keep rfl (.nil))) (bj_nil hN10 found_25)
  · change BJ _ _ _ _ ⟨[.val eI cell, .val eI size, .val eI kind, .own 0, .any], [.lst none eI s2]⟩ _ _
    exact bj_retO (i := 3) (k := 0) hR
def N__law_drawn : List PySem.Str := ["cell", "size", "far", "kind", "xs", "most", "call"]
theorem sc__law_drawn : FnScope N__law_drawn ["cell", "size", "far", "kind"] (defScope s__law_drawn) := ⟨rfl, rfl, rfl, by decide +kernel, rfl, by decide +kernel, by decide +kernel⟩
theorem c__law_drawn {P : Program} {w : World} {K : Frag} {mg : Str → Option Value} {base : Heap} (T : Fx K mg) : Cal P w K mg base "_law_drawn" 3 (spF mg (arV eI (arV eI (arV eI (arV eI (ar0 (K := K)))))) (fun g => m_law_drawn g.1 g.2.1 g.2.2.1 g.2.2.2.1) (rtV (eT (vsC (eT (vsC (eI (K := K)) (vsC (eI (K := K)) (vsC (eI (K := K)) (vs1 (eI (K := K))))))) (vs1 (eI (K := K))))))) := by
  obtain ⟨fd, F⟩ : ∃ fd, FunD K "_law_drawn" "_law_drawn" (defArgs s__law_drawn) (defBody s__law_drawn) (defScope s__law_drawn) [] [] (He.ga K "_law_drawn") fd := T.def_ 28
  have c__law_mixed := c__law_mixed (P := P) (w := w) (base := base) T
  refine cal_mk F (fn_ok F sc__law_drawn (fun g => rfl) ?_) (T.glo 28) (fun _ _ _ _ _ _ us hl => match us, hl with | [_, _, _, _], _ => rfl)
  intro cdv Ao outer s H E Z Qr D g am hR hN
  obtain ⟨cell, size, far, kind, _⟩ := g
  change BJ _ Z Qr D ⟨[.val eI cell, .val eI size, .val eI far, .val eI kind, .any, .any, .any], []⟩ (defBody s__law_drawn) (m_law_drawn cell size far kind)
  refine bj_asg (i := 4) am (ej_fj (fj_call_p (mf := (fun (g : Int × Int × Unit) => m_law_mixed g.1 g.2.1)) (g := (cell, (6 : Int), ())) am c__law_mixed (by decide) (aj_val_p (ej_var (i := 0)) (aj_val_p ej_int aj_nil)))) (fun xs_1 => ?_)
  change BJ _ _ _ _ ⟨[.val eI cell, .val eI size, .val eI far, .val eI kind, .val (eL eI) xs_1, .any, .any], []⟩ _ _
  refine bj_asg (i := 5) am (ej_mod_l (ej_ix_p (lj_ej (ej_var (i := 4))) ej_int) ej_int) (fun most_3 => ?_)
  change BJ _ _ _ _ ⟨[.val eI cell, .val eI size, .val eI far, .val eI kind, .val (eL eI) xs_1, .val eI most_3, .any], []⟩ _ _
  refine bj_asg (i := 6) am (ej_mod_l (ej_ix_p (lj_ej (ej_var (i := 4))) ej_int) ej_int) (fun call_5 => ?_)
  change BJ _ _ _ _ ⟨[.val eI cell, .val eI size, .val eI far, .val eI kind, .val (eL eI) xs_1, .val eI most_3, .val eI call_5], []⟩ _ _
  refine bj_ifs_p (S := Int × Int) (sps := fun (s6 : Int × Int) => ⟨[.val eI cell, .val eI size, .val eI far, .val eI kind, .val (eL eI) xs_1, .val eI s6.1, .val eI s6.2], []⟩) (tj_cmp (cj_gt_p (ej_var (i := 3)) ej_int)) (fun s6 => ?_) (fun Q38 D39 hN7 => ?_) (fun Q38 D39 hN7 => ?_)
  · change BJ _ _ _ _ ⟨[.val eI cell, .val eI size, .val eI far, .val eI kind, .val (eL eI) xs_1, .val eI s6.1, .val eI s6.2], []⟩ _ _
    refine bj_ifs (S := Int) (sps := fun (s21 : Int) => ⟨[.val eI cell, .val eI size, .val eI far, .val eI kind, .val (eL eI) xs_1, .val eI s6.1, .val eI s21], []⟩) (tj_cmp (cj_eq scI (ej_mod_l (ej_ix_p (lj_ej (ej_var (i := 4))) ej_int) ej_int) ej_int)) (fun s21 => ?_) (fun Q35 D36 hN22 => ?_) (fun Q35 D36 hN22 => ?_)
    · change BJ _ _ _ _ ⟨[.val eI cell, .val eI size, .val eI far, .val eI kind, .val (eL eI) xs_1, .val eI s6.1, .val eI s21], []⟩ _ _
      exact bj_ret hR (ej_tup (vj_cons (ej_tup (vj_cons (ej_mul (ej_mod_l (ej_ix_p (lj_ej (ej_var (i := 4))) ej_int) ej_int) (ej_var (i := 2))) (vj_cons (ej_mod (ej_ix_p (lj_ej (ej_var (i := 4))) ej_int) (ej_var (i := 1))) (vj_cons_p (ej_neg_p ej_int) (vj_one (ej_var (i := 5))))))) (vj_one (ej_var (i := 6)))))
    · change BJ _ _ _ _ ⟨[.val eI cell, .val eI size, .val eI far, .val eI kind, .val (eL eI) xs_1, .val eI s6.1, .val eI s6.2], []⟩ _ _
      refine bj_asg (i := 6) am (ej_pow_l 12 ej_int) (fun call_23 => ?_)
      change BJ _ _ _ _ ⟨[.val eI cell, .val eI size, .val eI far, .val eI kind, .val (eL eI) xs_1, .val eI s6.1, .val eI call_23], []⟩ _ _
      exact bj_weak (le_mk (ks := []) (.cons .val (.cons .val (.cons .val (.cons .val (.cons .val (.cons .val (.cons .val .nil))))))) (.nil)) (bj_nil hN22 call_23)
    · change BJ _ _ _ _ ⟨[.val eI cell, .val eI size, .val eI far, .val eI kind, .val (eL eI) xs_1, .val eI s6.1, .val eI s6.2], []⟩ _ _
      exact bj_weak (le_mk (ks := []) (.cons .val (.cons .val (.cons .val (.cons .val (.cons .val (.cons .val (.cons .val .nil))))))) (.nil)) (bj_nil hN22 s6.2)
  · change BJ _ _ _ _ ⟨[.val eI cell, .val eI size, .val eI far, .val eI kind, .val (eL eI) xs_1, .val eI most_3, .val eI call_5], []⟩ _ _
    refine bj_asg (i := 5) am (ej_mod_l (ej_add (ej_mul_p (ej_var (i := 0)) ej_int) (ej_mul (ej_ix_p (lj_ej (ej_var (i := 4))) ej_int) ej_int)) (ej_add_p (ej_pow_l 12 ej_int) ej_int)) (fun most_13 => ?_)
    change BJ _ _ _ _ ⟨[.val eI cell, .val eI size, .val eI far, .val eI kind, .val (eL eI) xs_1, .val eI most_13, .val eI call_5], []⟩ _ _
    refine bj_asg (i := 6) am (ej_mod_l (ej_mul (ej_ix_p (lj_ej (ej_var (i := 4))) ej_int) ej_int) (ej_add_p (ej_pow_l 12 ej_int) ej_int)) (fun call_17 => ?_)
    change BJ _ _ _ _ ⟨[.val eI cell, .val eI size, .val eI far, .val eI kind, .val (eL eI) xs_1, .val eI most_13, .val eI call_17], []⟩ _ _
    exact bj_weak (le_mk (ks := []) (.cons .val (.cons .val (.cons .val (.cons .val (.cons .val (.cons .val (.cons .val .nil))))))) (.nil)) (bj_nil hN7 ((most_13, call_17)))
  · change BJ _ _ _ _ ⟨[.val eI cell, .val eI size, .val eI far, .val eI kind, .val (eL eI) xs_1, .val eI most_3, .val eI call_5], []⟩ _ _
    exact bj_weak (le_mk (ks := []) (.cons .val (.cons .val (.cons .val (.cons .val (.cons .val (.cons .val (.cons .val .nil))))))) (.nil)) (bj_nil hN7 ((most_3, call_5)))
def N__law_giving : List PySem.Str := ["cell", "below", "far", "xs", "tops", "way", "back", "most", "reach"]
theorem sc__law_giving : FnScope N__law_giving ["cell", "below", "far"] (defScope s__law_giving) := ⟨rfl, rfl, rfl, by decide +kernel, rfl, by decide +kernel, by decide +kernel⟩
theorem c__law_giving {P : Program} {w : World} {K : Frag} {mg : Str → Option Value} {base : Heap} (T : Fx K mg) : Cal P w K mg base "_law_giving" 3 (spF mg (arV eI (arL eI (arV eI (ar0 (K := K))))) (fun g => m_law_giving g.1 g.2.1 g.2.2.1) (rtV (eT (vsC (eT (vsC (eI (K := K)) (vsC (eI (K := K)) (vsC (eI (K := K)) (vs1 (eI (K := K))))))) (vs1 (eI (K := K))))))) := by
  obtain ⟨fd, F⟩ : ∃ fd, FunD K "_law_giving" "_law_giving" (defArgs s__law_giving) (defBody s__law_giving) (defScope s__law_giving) [] [] (He.ga K "_law_giving") fd := T.def_ 29
  have c__law_mixed := c__law_mixed (P := P) (w := w) (base := base) T
  have c__law_way := c__law_way (P := P) (w := w) (base := base) T
  have b_len : mg "len" = none := T.free 73
  have b_range : mg "range" = none := T.free 76
  refine cal_mk F (fn_ok F sc__law_giving (fun g => rfl) ?_) (T.glo 29) (fun _ _ _ _ _ _ us hl => match us, hl with | [_, _, _], _ => rfl)
  intro cdv Ao outer s H E Z Qr D g am hR hN
  obtain ⟨cell, below, far, _⟩ := g
  change BJ _ Z Qr D ⟨[.val eI cell, .bor eI below, .val eI far, .any, .any, .any, .any, .any, .any], []⟩ (defBody s__law_giving) (m_law_giving cell below far)
  refine bj_asg (i := 3) am (ej_fj (fj_call_p (mf := (fun (g : Int × Int × Unit) => m_law_mixed g.1 g.2.1)) (g := (cell, (5 : Int), ())) am c__law_mixed (by decide) (aj_val_p (ej_var (i := 0)) (aj_val_p ej_int aj_nil)))) (fun xs_1 => ?_)
  change BJ _ _ _ _ ⟨[.val eI cell, .bor eI below, .val eI far, .val (eL eI) xs_1, .any, .any, .any, .any, .any], []⟩ _ _
  refine bj_lcifF (i := 4) (bd := fun (y2 : Int) sl => (sl.set 8 (.val eI y2))) (en := eI) (en' := eI) (own := [("reach", 8)]) (is := [8]) am (blkOk_by (N := N__law_giving) (sc := defScope s__law_giving) (by decide +kernel)) (by exact (sj_range1_p b_range (ej_len_p b_len (lj_bor (i := 1))))) (by exact fun s1 H1 C1 cl1 fp1 => (gj_name (i := 8) (am.blk s1 H1 C1 cl1 fp1).nd)) (by exact fun y2 s1 H1 C1 cl1 fp1 => (tj_cmp (cj_ne scI (ej_ix_p (lj_bor (i := 1)) (ej_var (i := 8))) (ej_neg_p ej_int)))) (by exact fun y2 s1 H1 C1 cl1 fp1 => (ej_var (i := 8))) (fun tops_6 => ?_)
  change BJ _ _ _ _ ⟨[.val eI cell, .bor eI below, .val eI far, .val (eL eI) xs_1, .val (eL eI) tops_6, .any, .any, .any, .any], []⟩ _ _
  refine bj_asg (i := 5) am (ej_fj (fj_call am c__law_way (by decide) (aj_lst (lj_bor (i := 1)) (aj_val (ej_ix (lj_ej (ej_var (i := 4))) (ej_mod (ej_ix_p (lj_ej (ej_var (i := 3))) ej_int) (ej_len_p b_len (lj_ej (ej_var (i := 4)))))) aj_nil)))) (fun way_16 => ?_)
  change BJ _ _ _ _ ⟨[.val eI cell, .bor eI below, .val eI far, .val (eL eI) xs_1, .val (eL eI) tops_6, .val (eL eI) way_16, .any, .any, .any], []⟩ _ _
  refine bj_asg (i := 6) am (ej_ix (lj_ej (ej_var (i := 5))) (ej_add ej_int (ej_mod (ej_ix_p (lj_ej (ej_var (i := 3))) ej_int) (ej_sub_p (ej_len_p b_len (lj_ej (ej_var (i := 5)))) ej_int)))) (fun back_23 => ?_)
  change BJ _ _ _ _ ⟨[.val eI cell, .bor eI below, .val eI far, .val (eL eI) xs_1, .val (eL eI) tops_6, .val (eL eI) way_16, .val eI back_23, .any, .any], []⟩ _ _
  refine bj_asg (i := 7) am (ej_add (ej_mod_l (ej_mul (ej_ix_p (lj_ej (ej_var (i := 3))) ej_int) ej_int) (ej_pow_l 12 ej_int)) ej_int) (fun most_29 => ?_)
  change BJ _ _ _ _ ⟨[.val eI cell, .bor eI below, .val eI far, .val (eL eI) xs_1, .val (eL eI) tops_6, .val (eL eI) way_16, .val eI back_23, .val eI most_29, .any], []⟩ _ _
  exact bj_ret hR (ej_tup (vj_cons (ej_tup (vj_cons (ej_mul (ej_mod_l (ej_ix_p (lj_ej (ej_var (i := 3))) ej_int) ej_int) (ej_var (i := 2))) (vj_cons (ej_ix_p (lj_ej (ej_var (i := 5))) ej_int) (vj_cons (ej_var (i := 6)) (vj_one (ej_ix_p (lj_fj (fj_lst (en := eI) (ij_cons_p ej_int (ij_cons_p (ej_var (i := 7)) (ij_cons_p (ej_var (i := 7)) (ij_cons_p ej_int ij_nil)))))) (ej_mod_lp (ej_var (i := 0)) ej_int))))))) (vj_one (ej_ix (lj_fj (fj_lst (en := eI) (ij_cons (ej_var (i := 7)) (ij_cons ej_int (ij_cons (ej_mod_l (ej_ix_p (lj_ej (ej_var (i := 3))) ej_int) ej_int) (ij_cons_p ej_int ij_nil)))))) (ej_mod_lp (ej_var (i := 0)) ej_int)))))
def N_deal : List PySem.Str := ["below", "springs", "roll", "calls", "left", "wants", "takes", "group", "ways", "taken", "number", "take"]
theorem sc_deal : FnScope N_deal ["below", "springs", "roll", "calls"] (defScope s_deal) := ⟨rfl, rfl, rfl, by decide +kernel, rfl, by decide +kernel, by decide +kernel⟩
theorem c_deal {P : Program} {w : World} {K : Frag} {mg : Str → Option Value} {base : Heap} (T : Fx K mg) : Cal P w K mg base "deal" 4 (spF mg (arL eI (arL eI (arL (eT (vsC eI (vsC eI (vsC eI (vs1 eI))))) (arL eI (ar0 (K := K)))))) (fun g => m_deal g.1 g.2.1 g.2.2.1 g.2.2.2.1) (rtN (eI (K := K)))) := by
  obtain ⟨fd, F⟩ : ∃ fd, FunD K "deal" "deal" (defArgs s_deal) (defBody s_deal) (defScope s_deal) [] [] (He.ga K "deal") fd := T.def_ 14
  have c_deal_turns := c_deal_turns (P := P) (w := w) (base := base) T
  have c_groups_of := c_groups_of (P := P) (w := w) (base := base) T
  have c_natural_of := c_natural_of (P := P) (w := w) (base := base) T
  have c_reaches_of := c_reaches_of (P := P) (w := w) (base := base) T
  have c_wants_of := c_wants_of (P := P) (w := w) (base := base) T
  have b_len : mg "len" = none := T.free 73
  have b_zip : mg "zip" = none := T.free 81
  refine cal_mk F (fn_ok F sc_deal (fun g => rfl) ?_) (T.glo 14) (fun _ _ _ _ _ _ us hl => match us, hl with | [_, _, _, _], _ => rfl)
  intro cdv Ao outer s H E Z Qr D g am hR hN
  obtain ⟨below, springs, roll, calls, _⟩ := g
  change BJ _ Z Qr D ⟨[.bor eI below, .bor eI springs, .bor (eT (vsC eI (vsC eI (vsC eI (vs1 eI))))) roll, .bor eI calls, .any, .any, .any, .any, .any, .any, .any, .any], []⟩ (defBody s_deal) (m_deal below springs roll calls)
  refine bj_asg (i := 4) am (ej_fj (fj_call_p (mf := (fun (g : (List Int) × (List Int) × Unit) => m_natural_of g.1 g.2.1)) (g := (below, springs, ())) am c_natural_of (by decide) (aj_lst_p (lj_bor (i := 0)) (aj_lst_p (lj_bor (i := 1)) aj_nil)))) (fun left_1 => ?_)
  change BJ _ _ _ _ ⟨[.bor eI below, .bor eI springs, .bor (eT (vsC eI (vsC eI (vsC eI (vs1 eI))))) roll, .bor eI calls, .val (eL eI) left_1, .any, .any, .any, .any, .any, .any, .any], []⟩ _ _
  refine bj_asg (i := 5) am (ej_fj (fj_call_p (mf := (fun (g : (List (Int × Int × Int × Int)) × (List Int) × Unit) => m_wants_of g.1 g.2.1)) (g := (roll, calls, ())) am c_wants_of (by decide) (aj_lst_p (lj_bor (i := 2)) (aj_lst_p (lj_bor (i := 3)) aj_nil)))) (fun wants_2 => ?_)
  change BJ _ _ _ _ ⟨[.bor eI below, .bor eI springs, .bor (eT (vsC eI (vsC eI (vsC eI (vs1 eI))))) roll, .bor eI calls, .val (eL eI) left_1, .val (eL eI) wants_2, .any, .any, .any, .any, .any, .any], []⟩ _ _
  refine bj_own (i := 6) am (fj_rep_p (mj_fj (fj_lst (en := eI) (ij_cons_p ej_int ij_nil))) (ej_len_p b_len (lj_bor (i := 2)))) (fun takes_3 => ?_)
  change BJ _ _ _ _ ⟨[.bor eI below, .bor eI springs, .bor (eT (vsC eI (vsC eI (vsC eI (vs1 eI))))) roll, .bor eI calls, .val (eL eI) left_1, .val (eL eI) wants_2, .own 0, .any, .any, .any, .any, .any], [.lst none eI takes_3]⟩ _ _
  refine bj_fors (S := (List Int) × (List Int)) (is := [7]) (sps := fun (s4 : (List Int) × (List Int)) => ⟨[.bor eI below, .bor eI springs, .bor (eT (vsC eI (vsC eI (vsC eI (vs1 eI))))) roll, .bor eI calls, .val (eL eI) s4.1, .val (eL eI) wants_2, .own 0, .any, .any, .any, .any, .any], [.lst none eI s4.2]⟩) am ((left_1, takes_3)) (sj_list (kj_ej (ej_call_p (mf := (fun (g : (List (Int × Int × Int × Int)) × Unit) => m_groups_of g.1)) (g := (roll, ())) am c_groups_of (by decide) (aj_lst_p (lj_bor (i := 2)) aj_nil)))) (gj_name (i := 7) am.nd) (le_mk (ks := [0]) (.cons .bor (.cons .bor (.cons .bor (.cons .bor (.cons .val (.cons .val (.cons (.own rfl) (.cons .any (.cons .any (.cons .any (.cons .any (.cons .any .nil)))))))))))) (.keep rfl (.nil))) (fun Z zx y5 s4 Q31 D32 hN6 => ?_) (fun s4 => ?_)
  · have am := am.zx zx
    change BJ _ _ _ _ ⟨[.bor eI below, .bor eI springs, .bor (eT (vsC eI (vsC eI (vsC eI (vs1 eI))))) roll, .bor eI calls, .val (eL eI) s4.1, .val (eL eI) wants_2, .own 0, .val (eL eI) y5, .any, .any, .any, .any], [.lst none eI s4.2]⟩ _ _
    refine bj_lcF_sp (i := 8) (bd := fun (y8 : Int) sl => (sl.set 10 (.val eI y8))) (en := eI) (en' := (eL eI)) (own := [("number", 10)]) (is := [10]) am (blkOk_by (N := N_deal) (sc := defScope s_deal) (by decide +kernel)) (by exact (sj_list (kj_ej (ej_var (i := 7))))) (by exact fun s1 H1 C1 cl1 fp1 => (gj_name (i := 10) (am.blk s1 H1 C1 cl1 fp1).nd)) (by exact fun y8 s1 H1 C1 cl1 fp1 => (ej_fj (fj_call (am.blk s1 H1 C1 cl1 fp1) c_reaches_of (by decide) (aj_lst (lj_bor (i := 0)) (aj_val (ej_ix_p (lj_bor (i := 2)) (ej_var (i := 10))) aj_nil))))) (fun ways_14 => ?_)
    change BJ _ _ _ _ ⟨[.bor eI below, .bor eI springs, .bor (eT (vsC eI (vsC eI (vsC eI (vs1 eI))))) roll, .bor eI calls, .val (eL eI) s4.1, .val (eL eI) wants_2, .own 0, .val (eL eI) y5, .val (eL (eL eI)) ways_14, .any, .any, .any], [.lst none eI s4.2]⟩ _ _
    refine bj_tup (ej_call am c_deal_turns (by decide) (aj_lst (lj_ej (ej_var (i := 4))) (aj_lst (lj_ej (ej_var (i := 8))) (aj_lst (lj_fj (fj_lc_sp (bd := fun (y15 : Int) sl => (sl.set 10 (.val eI y15))) (en := eI) (en' := eI) (own := [("number", 10)]) (is := [10]) am (blkOk_by (N := N_deal) (sc := defScope s_deal) (by decide +kernel)) (by exact (sj_list (kj_ej (ej_var (i := 7))))) (by exact fun s1 H1 C1 cl1 fp1 => (gj_name (i := 10) (am.blk s1 H1 C1 cl1 fp1).nd)) (by exact fun y15 s1 H1 C1 cl1 fp1 => (ej_ix_p (lj_ej (ej_var (i := 5))) (ej_var (i := 10)))))) aj_nil)))) (gj_tup am.calm (gsj_cons (gj_name (i := 9) am.nd) (gsj_one (gj_name (i := 4) am.nd))) (lenC len1)) (fun t23 => ?_)
    change BJ _ _ _ _ ⟨[.bor eI below, .bor eI springs, .bor (eT (vsC eI (vsC eI (vsC eI (vs1 eI))))) roll, .bor eI calls, .val (eL eI) t23.2, .val (eL eI) wants_2, .own 0, .val (eL eI) y5, .val (eL (eL eI)) ways_14, .val (eL eI) t23.1, .any, .any], [.lst none eI s4.2]⟩ _ _
    refine bj_fors_p (S := (List Int)) (is := [10, 11]) (sps := fun (s24 : (List Int)) => ⟨[.bor eI below, .bor eI springs, .bor (eT (vsC eI (vsC eI (vsC eI (vs1 eI))))) roll, .bor eI calls, .val (eL eI) t23.2, .val (eL eI) wants_2, .own 0, .val (eL eI) y5, .val (eL (eL eI)) ways_14, .val (eL eI) t23.1, .any, .any], [.lst none eI s24]⟩) am s4.2 (sj_zip_p b_zip (kj_ej (ej_var (i := 7))) (kj_ej (ej_var (i := 9)))) (gj_tup am.calm (gsj_cons (gj_name (i := 10) am.nd) (gsj_one (gj_name (i := 11) am.nd))) (lenC len1)) (le_mk (ks := [0]) (.cons .bor (.cons .bor (.cons .bor (.cons .bor (.cons .val (.cons .val (.cons (.own rfl) (.cons .val (.cons .val (.cons .val (.cons .any (.cons .any .nil)))))))))))) (.keep rfl (.nil))) (fun Z zx y25 s24 Q29 D30 hN26 => ?_) (fun s24 => ?_)
    · have am := am.zx zx
      change BJ _ _ _ _ ⟨[.bor eI below, .bor eI springs, .bor (eT (vsC eI (vsC eI (vsC eI (vs1 eI))))) roll, .bor eI calls, .val (eL eI) t23.2, .val (eL eI) wants_2, .own 0, .val (eL eI) y5, .val (eL (eL eI)) ways_14, .val (eL eI) t23.1, .val eI y25.1, .val eI y25.2], [.lst none eI s24]⟩ _ _
      refine bj_seti_p (i := 6) (o := 0) rfl rfl (ej_var (i := 11)) (ej_var (i := 10)) (fun takes_28 => ?_)
      change BJ _ _ _ _ ⟨[.bor eI below, .bor eI springs, .bor (eT (vsC eI (vsC eI (vsC eI (vs1 eI))))) roll, .bor eI calls, .val (eL eI) t23.2, .val (eL eI) wants_2, .own 0, .val (eL eI) y5, .val (eL (eL eI)) ways_14, .val (eL eI) t23.1, .val eI y25.1, .val eI y25.2], [.lst none eI takes_28]⟩ _ _
      exact bj_weak (le_mk (ks := [0]) (.cons .bor (.cons .bor (.cons .bor (.cons .bor (.cons .val (.cons .val (.cons (.own rfl) (.cons .val (.cons .val (.cons .val (.cons .any (.cons .any .nil)))))))))))) (.keep rfl (.nil))) (bj_nil hN26 takes_28)
    · change BJ _ _ _ _ ⟨[.bor eI below, .bor eI springs, .bor (eT (vsC eI (vsC eI (vsC eI (vs1 eI))))) roll, .bor eI calls, .val (eL eI) t23.2, .val (eL eI) wants_2, .own 0, .val (eL eI) y5, .val (eL (eL eI)) ways_14, .val (eL eI) t23.1, .any, .any], [.lst none eI s24]⟩ _ _
      exact bj_weak (le_mk (ks := [0]) (.cons .bor (.cons .bor (.cons .bor (.cons .bor (.cons .val (.cons .val (.cons (.own rfl) (.cons .any (.cons .any (.cons .any (.cons .any (.cons .any .nil)))))))))))) (.keep rfl (.nil))) (bj_nil hN6 ((t23.2, s24)))
  · change BJ _ _ _ _ ⟨[.bor eI below, .bor eI springs, .bor (eT (vsC eI (vsC eI (vsC eI (vs1 eI))))) roll, .bor eI calls, .val (eL eI) s4.1, .val (eL eI) wants_2, .own 0, .any, .any, .any, .any, .any], [.lst none eI s4.2]⟩ _ _
    exact bj_retO (i := 6) (k := 0) hR
def N_holds_of : List PySem.Str := ["below", "roll", "takes", "held", "one", "take", "reach"]
theorem sc_holds_of : FnScope N_holds_of ["below", "roll", "takes"] (defScope s_holds_of) := ⟨rfl, rfl, rfl, by decide +kernel, rfl, by decide +kernel, by decide +kernel⟩
theorem c_holds_of {P : Program} {w : World} {K : Frag} {mg : Str → Option Value} {base : Heap} (T : Fx K mg) : Cal P w K mg base "holds_of" 4 (spF mg (arL eI (arL (eT (vsC eI (vsC eI (vsC eI (vs1 eI))))) (arL eI (ar0 (K := K))))) (fun g => m_holds_of g.1 g.2.1 g.2.2.1) (rtN (eI (K := K)))) := by
  obtain ⟨fd, F⟩ : ∃ fd, FunD K "holds_of" "holds_of" (defArgs s_holds_of) (defBody s_holds_of) (defScope s_holds_of) [] [] (He.ga K "holds_of") fd := T.def_ 15
  have c_reaches_of := c_reaches_of (P := P) (w := w) (base := base) T
  have b_len : mg "len" = none := T.free 73
  have b_zip : mg "zip" = none := T.free 81
  refine cal_mk F (fn_ok F sc_holds_of (fun g => rfl) ?_) (T.glo 15) (fun _ _ _ _ _ _ us hl => match us, hl with | [_, _, _], _ => rfl)
  intro cdv Ao outer s H E Z Qr D g am hR hN
  obtain ⟨below, roll, takes, _⟩ := g
  change BJ _ Z Qr D ⟨[.bor eI below, .bor (eT (vsC eI (vsC eI (vsC eI (vs1 eI))))) roll, .bor eI takes, .any, .any, .any, .any], []⟩ (defBody s_holds_of) (m_holds_of below roll takes)
  refine bj_own (i := 3) am (fj_rep_p (mj_fj (fj_lst (en := eI) (ij_cons_p ej_int ij_nil))) (ej_len_p b_len (lj_bor (i := 0)))) (fun held_1 => ?_)
  change BJ _ _ _ _ ⟨[.bor eI below, .bor (eT (vsC eI (vsC eI (vsC eI (vs1 eI))))) roll, .bor eI takes, .own 0, .any, .any, .any], [.lst none eI held_1]⟩ _ _
  refine bj_fors_p (S := (List Int)) (is := [4, 5]) (sps := fun (s2 : (List Int)) => ⟨[.bor eI below, .bor (eT (vsC eI (vsC eI (vsC eI (vs1 eI))))) roll, .bor eI takes, .own 0, .any, .any, .any], [.lst none eI s2]⟩) am held_1 (sj_zip_p b_zip (kj_bor (i := 1)) (kj_bor (i := 2))) (gj_tup am.calm (gsj_cons (gj_name (i := 4) am.nd) (gsj_one (gj_name (i := 5) am.nd))) (lenC len1)) (le_mk (ks := [0]) (.cons .bor (.cons .bor (.cons .bor (.cons (.own rfl) (.cons .any (.cons .any (.cons .any .nil))))))) (.keep rfl (.nil))) (fun Z zx y3 s2 Q14 D15 hN4 => ?_) (fun s2 => ?_)
  · have am := am.zx zx
    change BJ _ _ _ _ ⟨[.bor eI below, .bor (eT (vsC eI (vsC eI (vsC eI (vs1 eI))))) roll, .bor eI takes, .own 0, .val (eT (vsC eI (vsC eI (vsC eI (vs1 eI))))) y3.1, .val eI y3.2, .any], [.lst none eI s2]⟩ _ _
    refine bj_fors (S := (List Int)) (is := [6]) (sps := fun (s6 : (List Int)) => ⟨[.bor eI below, .bor (eT (vsC eI (vsC eI (vsC eI (vs1 eI))))) roll, .bor eI takes, .own 0, .val (eT (vsC eI (vsC eI (vsC eI (vs1 eI))))) y3.1, .val eI y3.2, .any], [.lst none eI s6]⟩) am s2 (sj_list (kj_fj (fj_call_p (mf := (fun (g : (List Int) × (Int × Int × Int × Int) × Unit) => m_reaches_of g.1 g.2.1)) (g := (below, y3.1, ())) am c_reaches_of (by decide) (aj_lst_p (lj_bor (i := 0)) (aj_val_p (ej_var (i := 4)) aj_nil))))) (gj_name (i := 6) am.nd) (le_mk (ks := [0]) (.cons .bor (.cons .bor (.cons .bor (.cons (.own rfl) (.cons .val (.cons .val (.cons .any .nil))))))) (.keep rfl (.nil))) (fun Z zx y7 s6 Q11 D12 hN8 => ?_) (fun s6 => ?_)
    · have am := am.zx zx
      change BJ _ _ _ _ ⟨[.bor eI below, .bor (eT (vsC eI (vsC eI (vsC eI (vs1 eI))))) roll, .bor eI takes, .own 0, .val (eT (vsC eI (vsC eI (vsC eI (vs1 eI))))) y3.1, .val eI y3.2, .val eI y7], [.lst none eI s6]⟩ _ _
      refine bj_augi_p (i := 3) (o := 0) (f := fun i j => i + j) ip_add rfl rfl (ej_var (i := 6)) (ej_var (i := 5)) (fun held_10 => ?_)
      change BJ _ _ _ _ ⟨[.bor eI below, .bor (eT (vsC eI (vsC eI (vsC eI (vs1 eI))))) roll, .bor eI takes, .own 0, .val (eT (vsC eI (vsC eI (vsC eI (vs1 eI))))) y3.1, .val eI y3.2, .val eI y7], [.lst none eI held_10]⟩ _ _
      exact bj_weak (le_mk (ks := [0]) (.cons .bor (.cons .bor (.cons .bor (.cons (.own rfl) (.cons .val (.cons .val (.cons .any .nil))))))) (.keep rfl (.nil))) (bj_nil hN8 held_10)
    · change BJ _ _ _ _ ⟨[.bor eI below, .bor (eT (vsC eI (vsC eI (vsC eI (vs1 eI))))) roll, .bor eI takes, .own 0, .val (eT (vsC eI (vsC eI (vsC eI (vs1 eI))))) y3.1, .val eI y3.2, .any], [.lst none eI s6]⟩ _ _
      exact bj_weak (le_mk (ks := [0]) (.cons .bor (.cons .bor (.cons .bor (.cons (.own rfl) (.cons .any (.cons .any (.cons .any .nil))))))) (.keep rfl (.nil))) (bj_nil hN4 s6)
  · change BJ _ _ _ _ ⟨[.bor eI below, .bor (eT (vsC eI (vsC eI (vsC eI (vs1 eI))))) roll, .bor eI takes, .own 0, .any, .any, .any], [.lst none eI s2]⟩ _ _
    exact bj_retO (i := 3) (k := 0) hR
def N_free_of : List PySem.Str := ["below", "springs", "roll", "takes", "natural", "held", "whole", "part"]
theorem sc_free_of : FnScope N_free_of ["below", "springs", "roll", "takes"] (defScope s_free_of) := ⟨rfl, rfl, rfl, by decide +kernel, rfl, by decide +kernel, by decide +kernel⟩
theorem c_free_of {P : Program} {w : World} {K : Frag} {mg : Str → Option Value} {base : Heap} (T : Fx K mg) : Cal P w K mg base "free_of" 5 (spF mg (arL eI (arL eI (arL (eT (vsC eI (vsC eI (vsC eI (vs1 eI))))) (arL eI (ar0 (K := K)))))) (fun g => m_free_of g.1 g.2.1 g.2.2.1 g.2.2.2.1) (rtN (eI (K := K)))) := by
  obtain ⟨fd, F⟩ : ∃ fd, FunD K "free_of" "free_of" (defArgs s_free_of) (defBody s_free_of) (defScope s_free_of) [] [] (He.ga K "free_of") fd := T.def_ 16
  have c_holds_of := c_holds_of (P := P) (w := w) (base := base) T
  have c_natural_of := c_natural_of (P := P) (w := w) (base := base) T
  have b_zip : mg "zip" = none := T.free 81
  refine cal_mk F (fn_ok F sc_free_of (fun g => rfl) ?_) (T.glo 16) (fun _ _ _ _ _ _ us hl => match us, hl with | [_, _, _, _], _ => rfl)
  intro cdv Ao outer s H E Z Qr D g am hR hN
  obtain ⟨below, springs, roll, takes, _⟩ := g
  change BJ _ Z Qr D ⟨[.bor eI below, .bor eI springs, .bor (eT (vsC eI (vsC eI (vsC eI (vs1 eI))))) roll, .bor eI takes, .any, .any, .any, .any], []⟩ (defBody s_free_of) (m_free_of below springs roll takes)
  refine bj_asg (i := 4) am (ej_fj (fj_call_p (mf := (fun (g : (List Int) × (List Int) × Unit) => m_natural_of g.1 g.2.1)) (g := (below, springs, ())) am c_natural_of (by decide) (aj_lst_p (lj_bor (i := 0)) (aj_lst_p (lj_bor (i := 1)) aj_nil)))) (fun natural_1 => ?_)
  change BJ _ _ _ _ ⟨[.bor eI below, .bor eI springs, .bor (eT (vsC eI (vsC eI (vsC eI (vs1 eI))))) roll, .bor eI takes, .val (eL eI) natural_1, .any, .any, .any], []⟩ _ _
  refine bj_asg (i := 5) am (ej_fj (fj_call_p (mf := (fun (g : (List Int) × (List (Int × Int × Int × Int)) × (List Int) × Unit) => m_holds_of g.1 g.2.1 g.2.2.1)) (g := (below, roll, takes, ())) am c_holds_of (by decide) (aj_lst_p (lj_bor (i := 0)) (aj_lst_p (lj_bor (i := 2)) (aj_lst_p (lj_bor (i := 3)) aj_nil))))) (fun held_2 => ?_)
  change BJ _ _ _ _ ⟨[.bor eI below, .bor eI springs, .bor (eT (vsC eI (vsC eI (vsC eI (vs1 eI))))) roll, .bor eI takes, .val (eL eI) natural_1, .val (eL eI) held_2, .any, .any], []⟩ _ _
  exact bj_retF hR (fj_lc_pp (bd := fun (y3 : Int × Int) sl => ((sl.set 6 (.val eI y3.1)).set 7 (.val eI y3.2))) (en := (eT (vsC eI (vs1 eI)))) (en' := eI) (own := [("whole", 6), ("part", 7)]) (is := [6, 7]) am (blkOk_by (N := N_free_of) (sc := defScope s_free_of) (by decide +kernel)) (by exact (sj_zip_p b_zip (kj_ej (ej_var (i := 4))) (kj_ej (ej_var (i := 5))))) (by exact fun s1 H1 C1 cl1 fp1 => (gj_tup (am.blk s1 H1 C1 cl1 fp1).calm (gsj_cons (gj_name (i := 6) (am.blk s1 H1 C1 cl1 fp1).nd) (gsj_one (gj_name (i := 7) (am.blk s1 H1 C1 cl1 fp1).nd))) (lenC len1))) (by exact fun y3 s1 H1 C1 cl1 fp1 => (ej_sub_p (ej_var (i := 6)) (ej_var (i := 7)))))
def N_dry_of : List PySem.Str := ["below", "springs", "roll", "takes", "unheld", "reach", "drops"]
theorem sc_dry_of : FnScope N_dry_of ["below", "springs", "roll", "takes"] (defScope s_dry_of) := ⟨rfl, rfl, rfl, by decide +kernel, rfl, by decide +kernel, by decide +kernel⟩
theorem c_dry_of {P : Program} {w : World} {K : Frag} {mg : Str → Option Value} {base : Heap} (T : Fx K mg) : Cal P w K mg base "dry_of" 6 (spF mg (arL eI (arL eI (arL (eT (vsC eI (vsC eI (vsC eI (vs1 eI))))) (arL eI (ar0 (K := K)))))) (fun g => m_dry_of g.1 g.2.1 g.2.2.1 g.2.2.2.1) (rtN (eI (K := K)))) := by
  obtain ⟨fd, F⟩ : ∃ fd, FunD K "dry_of" "dry_of" (defArgs s_dry_of) (defBody s_dry_of) (defScope s_dry_of) [] [] (He.ga K "dry_of") fd := T.def_ 17
  have c_free_of := c_free_of (P := P) (w := w) (base := base) T
  have b_enumerate : mg "enumerate" = none := T.free 70
  refine cal_mk F (fn_ok F sc_dry_of (fun g => rfl) ?_) (T.glo 17) (fun _ _ _ _ _ _ us hl => match us, hl with | [_, _, _, _], _ => rfl)
  intro cdv Ao outer s H E Z Qr D g am hR hN
  obtain ⟨below, springs, roll, takes, _⟩ := g
  change BJ _ Z Qr D ⟨[.bor eI below, .bor eI springs, .bor (eT (vsC eI (vsC eI (vsC eI (vs1 eI))))) roll, .bor eI takes, .any, .any, .any], []⟩ (defBody s_dry_of) (m_dry_of below springs roll takes)
  refine bj_asg (i := 4) am (ej_fj (fj_call_p (mf := (fun (g : (List Int) × (List Int) × (List (Int × Int × Int × Int)) × (List Int) × Unit) => m_free_of g.1 g.2.1 g.2.2.1 g.2.2.2.1)) (g := (below, springs, roll, takes, ())) am c_free_of (by decide) (aj_lst_p (lj_bor (i := 0)) (aj_lst_p (lj_bor (i := 1)) (aj_lst_p (lj_bor (i := 2)) (aj_lst_p (lj_bor (i := 3)) aj_nil)))))) (fun unheld_1 => ?_)
  change BJ _ _ _ _ ⟨[.bor eI below, .bor eI springs, .bor (eT (vsC eI (vsC eI (vsC eI (vs1 eI))))) roll, .bor eI takes, .val (eL eI) unheld_1, .any, .any], []⟩ _ _
  exact bj_retF hR (fj_lcif_pp (bd := fun (y2 : Int × Int) sl => ((sl.set 5 (.val eI y2.1)).set 6 (.val eI y2.2))) (en := (eT (vsC eI (vs1 eI)))) (en' := eI) (own := [("reach", 5), ("drops", 6)]) (is := [5, 6]) am (blkOk_by (N := N_dry_of) (sc := defScope s_dry_of) (by decide +kernel)) (by exact (sj_enum_p b_enumerate (kj_ej (ej_var (i := 4))))) (by exact fun s1 H1 C1 cl1 fp1 => (gj_tup (am.blk s1 H1 C1 cl1 fp1).calm (gsj_cons (gj_name (i := 5) (am.blk s1 H1 C1 cl1 fp1).nd) (gsj_one (gj_name (i := 6) (am.blk s1 H1 C1 cl1 fp1).nd))) (lenC len1))) (by exact fun y2 s1 H1 C1 cl1 fp1 => (tj_cmp (cj_eq_p scI (ej_var (i := 6)) ej_int))) (by exact fun y2 s1 H1 C1 cl1 fp1 => (ej_var (i := 5))))
def N_cut_of : List PySem.Str := ["below", "springs", "roll", "calls", "one", "dry", "reaches", "numbers", "number", "natural", "wants", "total", "reach"]
theorem sc_cut_of : FnScope N_cut_of ["below", "springs", "roll", "calls"] (defScope s_cut_of) := ⟨rfl, rfl, rfl, by decide +kernel, rfl, by decide +kernel, by decide +kernel⟩
theorem c_cut_of {P : Program} {w : World} {K : Frag} {mg : Str → Option Value} {base : Heap} (T : Fx K mg) : Cal P w K mg base "cut_of" 7 (spF mg (arL eI (arL eI (arL (eT (vsC eI (vsC eI (vsC eI (vs1 eI))))) (arL eI (ar0 (K := K)))))) (fun g => m_cut_of g.1 g.2.1 g.2.2.1 g.2.2.2.1) (rtV (eT (vsC (eI (K := K)) (vsC (eL (eI (K := K))) (vs1 (eL (eI (K := K))))))))) := by
  obtain ⟨fd, F⟩ : ∃ fd, FunD K "cut_of" "cut_of" (defArgs s_cut_of) (defBody s_cut_of) (defScope s_cut_of) [] [] (He.ga K "cut_of") fd := T.def_ 20
  have c_deal := c_deal (P := P) (w := w) (base := base) T
  have c_dry_of := c_dry_of (P := P) (w := w) (base := base) T
  have c_has_any := c_has_any (P := P) (w := w) (base := base) T
  have c_lowest_of := c_lowest_of (P := P) (w := w) (base := base) T
  have c_natural_of := c_natural_of (P := P) (w := w) (base := base) T
  have c_reaches_of := c_reaches_of (P := P) (w := w) (base := base) T
  have c_wants_of := c_wants_of (P := P) (w := w) (base := base) T
  have b_enumerate : mg "enumerate" = none := T.free 70
  have b_sum : mg "sum" = none := T.free 79
  have x_NoCut : ExF K mg "NoCut" := T.exc 56 57
  refine cal_mk F (fn_ok F sc_cut_of (fun g => rfl) ?_) (T.glo 20) (fun _ _ _ _ _ _ us hl => match us, hl with | [_, _, _, _], _ => rfl)
  intro cdv Ao outer s H E Z Qr D g am hR hN
  obtain ⟨below, springs, roll, calls, _⟩ := g
  change BJ _ Z Qr D ⟨[.bor eI below, .bor eI springs, .bor (eT (vsC eI (vsC eI (vsC eI (vs1 eI))))) roll, .bor eI calls, .any, .any, .any, .any, .any, .any, .any, .any, .any], []⟩ (defBody s_cut_of) (m_cut_of below springs roll calls)
  refine bj_for_p (S := Unit) (is := [4]) (sps := fun (s1 : Unit) => ⟨[.bor eI below, .bor eI springs, .bor (eT (vsC eI (vsC eI (vsC eI (vs1 eI))))) roll, .bor eI calls, .any, .any, .any, .any, .any, .any, .any, .any, .any], []⟩) am (()) (sj_list (kj_bor (i := 2))) (gj_name (i := 4) am.nd) (le_mk (ks := []) (.cons .bor (.cons .bor (.cons .bor (.cons .bor (.cons .any (.cons .any (.cons .any (.cons .any (.cons .any (.cons .any (.cons .any (.cons .any (.cons .any .nil))))))))))))) (.nil)) (fun Z zx y2 s1 next5 nx bk hN3 hB4 => ?_) (fun s1 => ?_)
  · have am := am.zx zx
    have hR := hR.zx zx
    change BJ _ _ _ _ ⟨[.bor eI below, .bor eI springs, .bor (eT (vsC eI (vsC eI (vsC eI (vs1 eI))))) roll, .bor eI calls, .val (eT (vsC eI (vsC eI (vsC eI (vs1 eI))))) y2, .any, .any, .any, .any, .any, .any, .any, .any], []⟩ _ _
    refine bj_ifr_p (tj_cmp (cj_ne_p scI (ej_tix_p 2 (f := fun (g : Int × Int × Int × Int) => g.2.2.1) (ej_var (i := 4)) (vatS (vatS vat0))) (ej_neg_p ej_int))) (fun n6 => ?_) ?_
    · change BJ _ _ _ _ ⟨[.bor eI below, .bor eI springs, .bor (eT (vsC eI (vsC eI (vsC eI (vs1 eI))))) roll, .bor eI calls, .val (eT (vsC eI (vsC eI (vsC eI (vs1 eI))))) y2, .any, .any, .any, .any, .any, .any, .any, .any], []⟩ _ _
      exact bj_raise am x_NoCut
    · change BJ _ _ _ _ ⟨[.bor eI below, .bor eI springs, .bor (eT (vsC eI (vsC eI (vsC eI (vs1 eI))))) roll, .bor eI calls, .val (eT (vsC eI (vsC eI (vsC eI (vs1 eI))))) y2, .any, .any, .any, .any, .any, .any, .any, .any], []⟩ _ _
      exact bj_weak (le_mk (ks := []) (.cons .bor (.cons .bor (.cons .bor (.cons .bor (.cons .any (.cons .any (.cons .any (.cons .any (.cons .any (.cons .any (.cons .any (.cons .any (.cons .any .nil))))))))))))) (.nil)) (bj_nil hN3 (()))
  · change BJ _ _ _ _ ⟨[.bor eI below, .bor eI springs, .bor (eT (vsC eI (vsC eI (vsC eI (vs1 eI))))) roll, .bor eI calls, .any, .any, .any, .any, .any, .any, .any, .any, .any], []⟩ _ _
    refine bj_asg (i := 5) am (ej_fj (fj_call am c_dry_of (by decide) (aj_lst (lj_bor (i := 0)) (aj_lst (lj_bor (i := 1)) (aj_lst (lj_bor (i := 2)) (aj_lst (lj_fj (fj_call_p (mf := (fun (g : (List Int) × (List Int) × (List (Int × Int × Int × Int)) × (List Int) × Unit) => m_deal g.1 g.2.1 g.2.2.1 g.2.2.2.1)) (g := (below, springs, roll, calls, ())) am c_deal (by decide) (aj_lst_p (lj_bor (i := 0)) (aj_lst_p (lj_bor (i := 1)) (aj_lst_p (lj_bor (i := 2)) (aj_lst_p (lj_bor (i := 3)) aj_nil)))))) aj_nil)))))) (fun dry_16 => ?_)
    change BJ _ _ _ _ ⟨[.bor eI below, .bor eI springs, .bor (eT (vsC eI (vsC eI (vsC eI (vs1 eI))))) roll, .bor eI calls, .any, .val (eL eI) dry_16, .any, .any, .any, .any, .any, .any, .any], []⟩ _ _
    refine bj_asg (i := 6) am (ej_fj (fj_call_p (mf := (fun (g : (List Int) × (List Int) × Unit) => m_lowest_of g.1 g.2.1)) (g := (below, dry_16, ())) am c_lowest_of (by decide) (aj_lst_p (lj_bor (i := 0)) (aj_lst_p (lj_ej (ej_var (i := 5))) aj_nil)))) (fun reaches_17 => ?_)
    change BJ _ _ _ _ ⟨[.bor eI below, .bor eI springs, .bor (eT (vsC eI (vsC eI (vsC eI (vs1 eI))))) roll, .bor eI calls, .any, .val (eL eI) dry_16, .val (eL eI) reaches_17, .any, .any, .any, .any, .any, .any], []⟩ _ _
    refine bj_own (i := 7) am (fj_lst (en := eI) ij_nil) (fun numbers_18 => ?_)
    change BJ _ _ _ _ ⟨[.bor eI below, .bor eI springs, .bor (eT (vsC eI (vsC eI (vsC eI (vs1 eI))))) roll, .bor eI calls, .any, .val (eL eI) dry_16, .val (eL eI) reaches_17, .own 0, .any, .any, .any, .any, .any], [.lst none eI numbers_18]⟩ _ _
    refine bj_fors_p (S := (List Int)) (is := [8, 4]) (sps := fun (s19 : (List Int)) => ⟨[.bor eI below, .bor eI springs, .bor (eT (vsC eI (vsC eI (vsC eI (vs1 eI))))) roll, .bor eI calls, .any, .val (eL eI) dry_16, .val (eL eI) reaches_17, .own 0, .any, .any, .any, .any, .any], [.lst none eI s19]⟩) am numbers_18 (sj_enum_p b_enumerate (kj_bor (i := 2))) (gj_tup am.calm (gsj_cons (gj_name (i := 8) am.nd) (gsj_one (gj_name (i := 4) am.nd))) (lenC len1)) (le_mk (ks := [0]) (.cons .bor (.cons .bor (.cons .bor (.cons .bor (.cons .any (.cons .val (.cons .val (.cons (.own rfl) (.cons .any (.cons .any (.cons .any (.cons .any (.cons .any .nil))))))))))))) (.keep rfl (.nil))) (fun Z zx y20 s19 Q42 D43 hN21 => ?_) (fun s19 => ?_)
    · have am := am.zx zx
      change BJ _ _ _ _ ⟨[.bor eI below, .bor eI springs, .bor (eT (vsC eI (vsC eI (vsC eI (vs1 eI))))) roll, .bor eI calls, .val (eT (vsC eI (vsC eI (vsC eI (vs1 eI))))) y20.2, .val (eL eI) dry_16, .val (eL eI) reaches_17, .own 0, .val eI y20.1, .any, .any, .any, .any], [.lst none eI s19]⟩ _ _
      refine bj_ifs (S := (List Int)) (sps := fun (s27 : (List Int)) => ⟨[.bor eI below, .bor eI springs, .bor (eT (vsC eI (vsC eI (vsC eI (vs1 eI))))) roll, .bor eI calls, .val (eT (vsC eI (vsC eI (vsC eI (vs1 eI))))) y20.2, .val (eL eI) dry_16, .val (eL eI) reaches_17, .own 0, .val eI y20.1, .any, .any, .any, .any], [.lst none eI s27]⟩) (tj_not (tj_val (ej_call am c_has_any (by decide) (aj_lst (lj_fj (fj_call_p (mf := (fun (g : (List Int) × (Int × Int × Int × Int) × Unit) => m_reaches_of g.1 g.2.1)) (g := (below, y20.2, ())) am c_reaches_of (by decide) (aj_lst_p (lj_bor (i := 0)) (aj_val_p (ej_var (i := 4)) aj_nil)))) (aj_lst_p (lj_ej (ej_var (i := 6))) aj_nil))))) (fun s27 => ?_) (fun Q30 D31 hN28 => ?_) (fun Q30 D31 hN28 => ?_)
      · change BJ _ _ _ _ ⟨[.bor eI below, .bor eI springs, .bor (eT (vsC eI (vsC eI (vsC eI (vs1 eI))))) roll, .bor eI calls, .val (eT (vsC eI (vsC eI (vsC eI (vs1 eI))))) y20.2, .val (eL eI) dry_16, .val (eL eI) reaches_17, .own 0, .val eI y20.1, .any, .any, .any, .any], [.lst none eI s27]⟩ _ _
        exact bj_weak (le_mk (ks := [0]) (.cons .bor (.cons .bor (.cons .bor (.cons .bor (.cons .any (.cons .val (.cons .val (.cons (.own rfl) (.cons .any (.cons .any (.cons .any (.cons .any (.cons .any .nil))))))))))))) (.keep rfl (.nil))) (bj_nil hN21 s27)
      · change BJ _ _ _ _ ⟨[.bor eI below, .bor eI springs, .bor (eT (vsC eI (vsC eI (vsC eI (vs1 eI))))) roll, .bor eI calls, .val (eT (vsC eI (vsC eI (vsC eI (vs1 eI))))) y20.2, .val (eL eI) dry_16, .val (eL eI) reaches_17, .own 0, .val eI y20.1, .any, .any, .any, .any], [.lst none eI s19]⟩ _ _
        refine bj_append_p (i := 7) (o := 0) rfl rfl (ej_var (i := 8)) (fun numbers_29 => ?_)
        change BJ _ _ _ _ ⟨[.bor eI below, .bor eI springs, .bor (eT (vsC eI (vsC eI (vsC eI (vs1 eI))))) roll, .bor eI calls, .val (eT (vsC eI (vsC eI (vsC eI (vs1 eI))))) y20.2, .val (eL eI) dry_16, .val (eL eI) reaches_17, .own 0, .val eI y20.1, .any, .any, .any, .any], [.lst none eI numbers_29]⟩ _ _
        exact bj_weak (le_mk (ks := [0]) (.cons .bor (.cons .bor (.cons .bor (.cons .bor (.cons .val (.cons .val (.cons .val (.cons (.own rfl) (.cons .val (.cons .any (.cons .any (.cons .any (.cons .any .nil))))))))))))) (.keep rfl (.nil))) (bj_nil hN28 numbers_29)
      · change BJ _ _ _ _ ⟨[.bor eI below, .bor eI springs, .bor (eT (vsC eI (vsC eI (vsC eI (vs1 eI))))) roll, .bor eI calls, .val (eT (vsC eI (vsC eI (vsC eI (vs1 eI))))) y20.2, .val (eL eI) dry_16, .val (eL eI) reaches_17, .own 0, .val eI y20.1, .any, .any, .any, .any], [.lst none eI s19]⟩ _ _
        exact bj_weak (le_mk (ks := [0]) (.cons .bor (.cons .bor (.cons .bor (.cons .bor (.cons .val (.cons .val (.cons .val (.cons (.own rfl) (.cons .val (.cons .any (.cons .any (.cons .any (.cons .any .nil))))))))))))) (.keep rfl (.nil))) (bj_nil hN28 s19)
    · change BJ _ _ _ _ ⟨[.bor eI below, .bor eI springs, .bor (eT (vsC eI (vsC eI (vsC eI (vs1 eI))))) roll, .bor eI calls, .any, .val (eL eI) dry_16, .val (eL eI) reaches_17, .own 0, .any, .any, .any, .any, .any], [.lst none eI s19]⟩ _ _
      refine bj_frz (k := 0) (en := eI) rfl ?_
      change BJ _ _ _ _ ⟨[.bor eI below, .bor eI springs, .bor (eT (vsC eI (vsC eI (vsC eI (vs1 eI))))) roll, .bor eI calls, .any, .val (eL eI) dry_16, .val (eL eI) reaches_17, .val (eL eI) s19, .any, .any, .any, .any, .any], [.dead]⟩ _ _
      refine bj_asg (i := 9) am (ej_fj (fj_call_p (mf := (fun (g : (List Int) × (List Int) × Unit) => m_natural_of g.1 g.2.1)) (g := (below, springs, ())) am c_natural_of (by decide) (aj_lst_p (lj_bor (i := 0)) (aj_lst_p (lj_bor (i := 1)) aj_nil)))) (fun natural_33 => ?_)
      change BJ _ _ _ _ ⟨[.bor eI below, .bor eI springs, .bor (eT (vsC eI (vsC eI (vsC eI (vs1 eI))))) roll, .bor eI calls, .any, .val (eL eI) dry_16, .val (eL eI) reaches_17, .val (eL eI) s19, .any, .val (eL eI) natural_33, .any, .any, .any], [.dead]⟩ _ _
      refine bj_asg (i := 10) am (ej_fj (fj_call_p (mf := (fun (g : (List (Int × Int × Int × Int)) × (List Int) × Unit) => m_wants_of g.1 g.2.1)) (g := (roll, calls, ())) am c_wants_of (by decide) (aj_lst_p (lj_bor (i := 2)) (aj_lst_p (lj_bor (i := 3)) aj_nil)))) (fun wants_34 => ?_)
      change BJ _ _ _ _ ⟨[.bor eI below, .bor eI springs, .bor (eT (vsC eI (vsC eI (vsC eI (vs1 eI))))) roll, .bor eI calls, .any, .val (eL eI) dry_16, .val (eL eI) reaches_17, .val (eL eI) s19, .any, .val (eL eI) natural_33, .val (eL eI) wants_34, .any, .any], [.dead]⟩ _ _
      refine bj_asg (i := 11) am (ej_add (ej_sum b_sum (lj_fj (fj_lc_sp (bd := fun (y35 : Int) sl => (sl.set 12 (.val eI y35))) (en := eI) (en' := eI) (own := [("reach", 12)]) (is := [12]) am (blkOk_by (N := N_cut_of) (sc := defScope s_cut_of) (by decide +kernel)) (by exact (sj_list (kj_ej (ej_var (i := 6))))) (by exact fun s1 H1 C1 cl1 fp1 => (gj_name (i := 12) (am.blk s1 H1 C1 cl1 fp1).nd)) (by exact fun y35 s1 H1 C1 cl1 fp1 => (ej_ix_p (lj_ej (ej_var (i := 9))) (ej_var (i := 12))))))) (ej_sum b_sum (lj_fj (fj_lc_sp (bd := fun (y37 : Int) sl => (sl.set 8 (.val eI y37))) (en := eI) (en' := eI) (own := [("number", 8)]) (is := [8]) am (blkOk_by (N := N_cut_of) (sc := defScope s_cut_of) (by decide +kernel)) (by exact (sj_list (kj_ej (ej_var (i := 7))))) (by exact fun s1 H1 C1 cl1 fp1 => (gj_name (i := 8) (am.blk s1 H1 C1 cl1 fp1).nd)) (by exact fun y37 s1 H1 C1 cl1 fp1 => (ej_ix_p (lj_ej (ej_var (i := 10))) (ej_var (i := 8)))))))) (fun total_41 => ?_)
      change BJ _ _ _ _ ⟨[.bor eI below, .bor eI springs, .bor (eT (vsC eI (vsC eI (vsC eI (vs1 eI))))) roll, .bor eI calls, .any, .val (eL eI) dry_16, .val (eL eI) reaches_17, .val (eL eI) s19, .any, .val (eL eI) natural_33, .val (eL eI) wants_34, .val eI total_41, .any], [.dead]⟩ _ _
      exact bj_ret hR (ej_tup (vj_cons_p (ej_var (i := 11)) (vj_cons_p (ej_var (i := 6)) (vj_one (ej_var (i := 7))))))
def N__law_refused : List PySem.Str := ["below", "springs", "roll", "calls", "caught", "e"]
theorem sc__law_refused : FnScope N__law_refused ["below", "springs", "roll", "calls"] (defScope s__law_refused) := ⟨rfl, rfl, rfl, by decide +kernel, rfl, by decide +kernel, by decide +kernel⟩
theorem c__law_refused {P : Program} {w : World} {K : Frag} {mg : Str → Option Value} {base : Heap} (T : Fx K mg) : Cal P w K mg base "_law_refused" 8 (spF mg (arL eI (arL eI (arL (eT (vsC eI (vsC eI (vsC eI (vs1 eI))))) (arL eI (ar0 (K := K)))))) (fun g => m_law_refused g.1 g.2.1 g.2.2.1 g.2.2.2.1) (rtV (eB (K := K)))) := by
  obtain ⟨fd, F⟩ : ∃ fd, FunD K "_law_refused" "_law_refused" (defArgs s__law_refused) (defBody s__law_refused) (defScope s__law_refused) [] [] (He.ga K "_law_refused") fd := T.def_ 32
  have c__law_other_name := c__law_other_name (P := P) (w := w) (base := base) T
  have c_cut_of := c_cut_of (P := P) (w := w) (base := base) T
  have b_ValueError : mg "ValueError" = none := T.free 68
  have b_isinstance : mg "isinstance" = none := T.free 72
  refine cal_mk F (fn_ok F sc__law_refused (fun g => rfl) ?_) (T.glo 32) (fun _ _ _ _ _ _ us hl => match us, hl with | [_, _, _, _], _ => rfl)
  intro cdv Ao outer s H E Z Qr D g am hR hN
  obtain ⟨below, springs, roll, calls, _⟩ := g
  have xf := T.xf
  change BJ _ Z Qr D ⟨[.bor eI below, .bor eI springs, .bor (eT (vsC eI (vsC eI (vsC eI (vs1 eI))))) roll, .bor eI calls, .any, .any], []⟩ (defBody s__law_refused) (m_law_refused below springs roll calls)
  refine bj_asg (i := 4) am (ej_non (en := (eX Mr.exN))) (fun caught_1 => ?_)
  change BJ _ _ _ _ ⟨[.bor eI below, .bor eI springs, .bor (eT (vsC eI (vsC eI (vsC eI (vs1 eI))))) roll, .bor eI calls, .val (eO (eX Mr.exN)) caught_1, .any], []⟩ _ _
  refine bj_tryS (ns := Mr.exN) (ts := Mr.exT) (S := (Option PySem.Str)) (i := 5) (ic := 4) (fN := (fun (r3 : Unit) => caught_1)) (fE := (fun (c4 : PySem.Str) => (some (c4)))) (sps := fun (s2 : (Option PySem.Str)) => ⟨[.bor eI below, .bor eI springs, .bor (eT (vsC eI (vsC eI (vsC eI (vs1 eI))))) roll, .bor eI calls, .val (eO (eX Mr.exN)) s2, .any], []⟩) (spN := fun (r3 : Unit) => ⟨[.bor eI below, .bor eI springs, .bor (eT (vsC eI (vsC eI (vsC eI (vs1 eI))))) roll, .bor eI calls, .val (eO (eX Mr.exN)) caught_1, .any], []⟩) (spE := ⟨[.bor eI below, .bor eI springs, .bor (eT (vsC eI (vsC eI (vsC eI (vs1 eI))))) roll, .bor eI calls, .val (eO (eX Mr.exN)) caught_1, .any], []⟩) am xf (fun pn xe am => (tbj_ex (mf := (fun (g : (List Int) × (List Int) × (List (Int × Int × Int × Int)) × (List Int) × Unit) => m_cut_of g.1 g.2.1 g.2.2.1 g.2.2.2.1)) (ma := Res.ok (below, springs, roll, calls, ())) am.hr c_cut_of (by decide) (aj_lst_p (lj_bor (i := 0)) (aj_lst_p (lj_bor (i := 1)) (aj_lst_p (lj_bor (i := 2)) (aj_lst_p (lj_bor (i := 3)) aj_nil)))))) (fun r3 => (le_mk (ks := []) (.cons .bor (.cons .bor (.cons .bor (.cons .bor (.cons .val (.cons .any .nil)))))) (.nil))) (fun c4 => (le_mk (ks := []) (.cons .bor (.cons .bor (.cons .bor (.cons .bor (.cons .val (.cons .any .nil)))))) (.nil))) (fun s2 => ?_)
  · change BJ _ _ _ _ ⟨[.bor eI below, .bor eI springs, .bor (eT (vsC eI (vsC eI (vsC eI (vs1 eI))))) roll, .bor eI calls, .val (eO (eX Mr.exN)) s2, .any], []⟩ _ _
    exact bj_ret hR (ej_and (ej_isXO_p (ns := Mr.exN) (ts := Mr.exT) xf b_isinstance (ej_var (i := 4))) (ej_and (ej_isVO_p xf b_isinstance b_ValueError (ej_var (i := 4))) (ej_one (ej_not (ej_call am c__law_other_name (by decide) (aj_val (ej_un_p (ej_var (i := 4))) aj_nil))))))
def N_law : List PySem.Str := ["script", "below", "kind", "springs", "far", "roll", "calls", "cell", "one", "call", "at", "handed", "found", "line"]
theorem sc_law : FnScope N_law ["script"] (defScope s_law) := ⟨rfl, rfl, rfl, by decide +kernel, rfl, by decide +kernel, by decide +kernel⟩
theorem ok_law {P : Program} {w : World} {K : Frag} {mg : Str → Option Value} {base : Heap} (T : Fx K mg) {fd : FuncData} (F : FunD K "law" "law" (defArgs s_law) (defBody s_law) (defScope s_law) [] [] (He.ga K "law") fd) : FnOk P w K mg base (L2.CX P w) 9 (He.ga K "law") fd ["script"] (spF mg (arL eI (ar0 (K := K))) (fun g => m_law g.1) (rtV (eB (K := K)))) := by
  have c__law_cell_at := c__law_cell_at (P := P) (w := w) (base := base) T
  have c__law_drawn := c__law_drawn (P := P) (w := w) (base := base) T
  have c__law_giving := c__law_giving (P := P) (w := w) (base := base) T
  have c__law_more := c__law_more (P := P) (w := w) (base := base) T
  have c__law_refused := c__law_refused (P := P) (w := w) (base := base) T
  have c__law_river := c__law_river (P := P) (w := w) (base := base) T
  have c__law_springs := c__law_springs (P := P) (w := w) (base := base) T
  have c__law_whole := c__law_whole (P := P) (w := w) (base := base) T
  have c_cut_of := c_cut_of (P := P) (w := w) (base := base) T
  have c_deal := c_deal (P := P) (w := w) (base := base) T
  have b_isinstance : mg "isinstance" = none := T.free 72
  have b_len : mg "len" = none := T.free 73
  have b_list : mg "list" = none := T.free 74
  have b_sum : mg "sum" = none := T.free 79
  have b_tuple : mg "tuple" = none := T.free 80
  refine fn_ok F sc_law (fun g => rfl) ?_
  intro cdv Ao outer s H E Z Qr D g am hR hN
  obtain ⟨script, _⟩ := g
  have hU := am.hr.units
  change BJ _ Z Qr D ⟨[.bor eI script, .any, .any, .any, .any, .any, .any, .any, .any, .any, .any, .any, .any, .any], []⟩ (defBody s_law) (m_law script)
  refine bj_asg (i := 1) am (ej_fj (fj_call am c__law_river (by decide) (aj_val (ej_call_p (mf := (fun (g : (List Int) × Int × Unit) => m_law_cell_at g.1 g.2.1)) (g := (script, (0 : Int), ())) am c__law_cell_at (by decide) (aj_lst_p (lj_bor (i := 0)) (aj_val_p ej_int aj_nil))) aj_nil))) (fun below_4 => ?_)
  change BJ _ _ _ _ ⟨[.bor eI script, .val (eL eI) below_4, .any, .any, .any, .any, .any, .any, .any, .any, .any, .any, .any, .any], []⟩ _ _
  refine bj_asg (i := 2) am (ej_mod_l (ej_call_p (mf := (fun (g : (List Int) × Int × Unit) => m_law_cell_at g.1 g.2.1)) (g := (script, (2 : Int), ())) am c__law_cell_at (by decide) (aj_lst_p (lj_bor (i := 0)) (aj_val_p ej_int aj_nil))) ej_int) (fun kind_6 => ?_)
  change BJ _ _ _ _ ⟨[.bor eI script, .val (eL eI) below_4, .val eI kind_6, .any, .any, .any, .any, .any, .any, .any, .any, .any, .any, .any], []⟩ _ _
  refine bj_asg (i := 3) am (ej_fj (fj_call am c__law_springs (by decide) (aj_val (ej_call_p (mf := (fun (g : (List Int) × Int × Unit) => m_law_cell_at g.1 g.2.1)) (g := (script, (1 : Int), ())) am c__law_cell_at (by decide) (aj_lst_p (lj_bor (i := 0)) (aj_val_p ej_int aj_nil))) (aj_val_p (ej_len_p b_len (lj_ej (ej_var (i := 1)))) (aj_val_p (ej_var (i := 2)) aj_nil))))) (fun springs_10 => ?_)
  change BJ _ _ _ _ ⟨[.bor eI script, .val (eL eI) below_4, .val eI kind_6, .val (eL eI) springs_10, .any, .any, .any, .any, .any, .any, .any, .any, .any, .any], []⟩ _ _
  refine bj_asg (i := 4) am (ej_add ej_int (ej_mod_l (ej_div_l (ej_call_p (mf := (fun (g : (List Int) × Int × Unit) => m_law_cell_at g.1 g.2.1)) (g := (script, (2 : Int), ())) am c__law_cell_at (by decide) (aj_lst_p (lj_bor (i := 0)) (aj_val_p ej_int aj_nil))) ej_int) ej_int)) (fun far_15 => ?_)
  change BJ _ _ _ _ ⟨[.bor eI script, .val (eL eI) below_4, .val eI kind_6, .val (eL eI) springs_10, .val eI far_15, .any, .any, .any, .any, .any, .any, .any, .any, .any], []⟩ _ _
  refine bj_own (i := 5) am (fj_lst (en := (eT (vsC eI (vsC eI (vsC eI (vs1 eI)))))) ij_nil) (fun roll_16 => ?_)
  change BJ _ _ _ _ ⟨[.bor eI script, .val (eL eI) below_4, .val eI kind_6, .val (eL eI) springs_10, .val eI far_15, .own 0, .any, .any, .any, .any, .any, .any, .any, .any], [.lst none (eT (vsC eI (vsC eI (vsC eI (vs1 eI))))) roll_16]⟩ _ _
  refine bj_own (i := 6) am (fj_lst (en := eI) ij_nil) (fun calls_17 => ?_)
  change BJ _ _ _ _ ⟨[.bor eI script, .val (eL eI) below_4, .val eI kind_6, .val (eL eI) springs_10, .val eI far_15, .own 0, .own 1, .any, .any, .any, .any, .any, .any, .any], [.lst none (eT (vsC eI (vsC eI (vsC eI (vs1 eI))))) roll_16, .lst none eI calls_17]⟩ _ _
  refine bj_fors_p (S := (List (Int × Int × Int × Int)) × (List Int)) (is := [7]) (sps := fun (s18 : (List (Int × Int × Int × Int)) × (List Int)) => ⟨[.bor eI script, .val (eL eI) below_4, .val eI kind_6, .val (eL eI) springs_10, .val eI far_15, .own 0, .own 1, .any, .any, .any, .any, .any, .any, .any], [.lst none (eT (vsC eI (vsC eI (vsC eI (vs1 eI))))) s18.1, .lst none eI s18.2]⟩) am ((roll_16, calls_17)) (sj_list (kj_fj (fj_slice_p (lj_bor (i := 0)) (oj_some_p ej_int) (oj_some_p ej_int)))) (gj_name (i := 7) am.nd) (le_mk (ks := [0, 1]) (.cons .bor (.cons .val (.cons .val (.cons .val (.cons .val (.cons (.own rfl) (.cons (.own rfl) (.cons .any (.cons .any (.cons .any (.cons .any (.cons .any (.cons .any (.cons .any .nil)))))))))))))) (.keep rfl (.keep rfl (.nil)))) (fun Z zx y19 s18 Q63 D64 hN20 => ?_) (fun s18 => ?_)
  · have am := am.zx zx
    change BJ _ _ _ _ ⟨[.bor eI script, .val (eL eI) below_4, .val eI kind_6, .val (eL eI) springs_10, .val eI far_15, .own 0, .own 1, .val eI y19, .any, .any, .any, .any, .any, .any], [.lst none (eT (vsC eI (vsC eI (vsC eI (vs1 eI))))) s18.1, .lst none eI s18.2]⟩ _ _
    refine bj_tup (ej_call_p (mf := (fun (g : Int × Int × Int × Int × Unit) => m_law_drawn g.1 g.2.1 g.2.2.1 g.2.2.2.1)) (g := (y19, ((below_4).length : Int), far_15, kind_6, ())) am c__law_drawn (by decide) (aj_val_p (ej_var (i := 7)) (aj_val_p (ej_len_p b_len (lj_ej (ej_var (i := 1)))) (aj_val_p (ej_var (i := 4)) (aj_val_p (ej_var (i := 2)) aj_nil))))) (gj_tup am.calm (gsj_cons (gj_name (i := 8) am.nd) (gsj_one (gj_name (i := 9) am.nd))) (lenC len1)) (fun t22 => ?_)
    change BJ _ _ _ _ ⟨[.bor eI script, .val (eL eI) below_4, .val eI kind_6, .val (eL eI) springs_10, .val eI far_15, .own 0, .own 1, .val eI y19, .val (eT (vsC eI (vsC eI (vsC eI (vs1 eI))))) t22.1, .val eI t22.2, .any, .any, .any, .any], [.lst none (eT (vsC eI (vsC eI (vsC eI (vs1 eI))))) s18.1, .lst none eI s18.2]⟩ _ _
    refine bj_append_p (i := 5) (o := 0) rfl rfl (ej_var (i := 8)) (fun roll_23 => ?_)
    change BJ _ _ _ _ ⟨[.bor eI script, .val (eL eI) below_4, .val eI kind_6, .val (eL eI) springs_10, .val eI far_15, .own 0, .own 1, .val eI y19, .val (eT (vsC eI (vsC eI (vsC eI (vs1 eI))))) t22.1, .val eI t22.2, .any, .any, .any, .any], [.lst none (eT (vsC eI (vsC eI (vsC eI (vs1 eI))))) roll_23, .lst none eI s18.2]⟩ _ _
    refine bj_append_p (i := 6) (o := 1) rfl rfl (ej_var (i := 9)) (fun calls_24 => ?_)
    change BJ _ _ _ _ ⟨[.bor eI script, .val (eL eI) below_4, .val eI kind_6, .val (eL eI) springs_10, .val eI far_15, .own 0, .own 1, .val eI y19, .val (eT (vsC eI (vsC eI (vsC eI (vs1 eI))))) t22.1, .val eI t22.2, .any, .any, .any, .any], [.lst none (eT (vsC eI (vsC eI (vsC eI (vs1 eI))))) roll_23, .lst none eI calls_24]⟩ _ _
    exact bj_weak (le_mk (ks := [0, 1]) (.cons .bor (.cons .val (.cons .val (.cons .val (.cons .val (.cons (.own rfl) (.cons (.own rfl) (.cons .any (.cons .any (.cons .any (.cons .any (.cons .any (.cons .any (.cons .any .nil)))))))))))))) (.keep rfl (.keep rfl (.nil)))) (bj_nil hN20 ((roll_23, calls_24)))
  · change BJ _ _ _ _ ⟨[.bor eI script, .val (eL eI) below_4, .val eI kind_6, .val (eL eI) springs_10, .val eI far_15, .own 0, .own 1, .any, .any, .any, .any, .any, .any, .any], [.lst none (eT (vsC eI (vsC eI (vsC eI (vs1 eI))))) s18.1, .lst none eI s18.2]⟩ _ _
    refine bj_frz (k := 0) (en := (eT (vsC eI (vsC eI (vsC eI (vs1 eI)))))) rfl ?_
    change BJ _ _ _ _ ⟨[.bor eI script, .val (eL eI) below_4, .val eI kind_6, .val (eL eI) springs_10, .val eI far_15, .val (eL (eT (vsC eI (vsC eI (vsC eI (vs1 eI)))))) s18.1, .own 1, .any, .any, .any, .any, .any, .any, .any], [.dead, .lst none eI s18.2]⟩ _ _
    refine bj_frz (k := 1) (en := eI) rfl ?_
    change BJ _ _ _ _ ⟨[.bor eI script, .val (eL eI) below_4, .val eI kind_6, .val (eL eI) springs_10, .val eI far_15, .val (eL (eT (vsC eI (vsC eI (vsC eI (vs1 eI)))))) s18.1, .val (eL eI) s18.2, .any, .any, .any, .any, .any, .any, .any], [.dead, .dead]⟩ _ _
    refine bj_tup (ej_call am c__law_giving (by decide) (aj_val (ej_call_p (mf := (fun (g : (List Int) × Int × Unit) => m_law_cell_at g.1 g.2.1)) (g := (script, (3 : Int), ())) am c__law_cell_at (by decide) (aj_lst_p (lj_bor (i := 0)) (aj_val_p ej_int aj_nil))) (aj_lst_p (lj_ej (ej_var (i := 1))) (aj_val_p (ej_var (i := 4)) aj_nil)))) (gj_tup am.calm (gsj_cons (gj_name (i := 8) am.nd) (gsj_one (gj_name (i := 9) am.nd))) (lenC len1)) (fun t28 => ?_)
    change BJ _ _ _ _ ⟨[.bor eI script, .val (eL eI) below_4, .val eI kind_6, .val (eL eI) springs_10, .val eI far_15, .val (eL (eT (vsC eI (vsC eI (vsC eI (vs1 eI)))))) s18.1, .val (eL eI) s18.2, .any, .val (eT (vsC eI (vsC eI (vsC eI (vs1 eI))))) t28.1, .val eI t28.2, .any, .any, .any, .any], [.dead, .dead]⟩ _ _
    refine bj_asg (i := 10) am (ej_mod (ej_div_l (ej_call_p (mf := (fun (g : (List Int) × Int × Unit) => m_law_cell_at g.1 g.2.1)) (g := (script, (3 : Int), ())) am c__law_cell_at (by decide) (aj_lst_p (lj_bor (i := 0)) (aj_val_p ej_int aj_nil))) ej_int) (ej_add_p (ej_len_p b_len (lj_ej (ej_var (i := 5)))) ej_int)) (fun at_32 => ?_)
    change BJ _ _ _ _ ⟨[.bor eI script, .val (eL eI) below_4, .val eI kind_6, .val (eL eI) springs_10, .val eI far_15, .val (eL (eT (vsC eI (vsC eI (vsC eI (vs1 eI)))))) s18.1, .val (eL eI) s18.2, .any, .val (eT (vsC eI (vsC eI (vsC eI (vs1 eI))))) t28.1, .val eI t28.2, .val eI at_32, .any, .any, .any], [.dead, .dead]⟩ _ _
    refine bj_own (i := 5) am (fj_call am c__law_more (by decide) (aj_lst (lj_fj (fj_cat (mj_fj (fj_cat_p (mj_fj (fj_slice_p (lj_ej (ej_var (i := 5))) oj_none (oj_some_p (ej_var (i := 10))))) (mj_fj (fj_lst (en := (eT (vsC eI (vsC eI (vsC eI (vs1 eI)))))) (ij_cons_p (ej_var (i := 8)) ij_nil))))) (mj_fj (fj_slice_p (lj_ej (ej_var (i := 5))) (oj_some_p (ej_var (i := 10))) oj_none)))) (aj_lst (lj_ej (ej_var (i := 1))) (aj_val (ej_div_l (ej_call_p (mf := (fun (g : (List Int) × Int × Unit) => m_law_cell_at g.1 g.2.1)) (g := (script, (3 : Int), ())) am c__law_cell_at (by decide) (aj_lst_p (lj_bor (i := 0)) (aj_val_p ej_int aj_nil))) ej_int) aj_nil)))) (fun roll_43 => ?_)
    change BJ _ _ _ _ ⟨[.bor eI script, .val (eL eI) below_4, .val eI kind_6, .val (eL eI) springs_10, .val eI far_15, .own 2, .val (eL eI) s18.2, .any, .val (eT (vsC eI (vsC eI (vsC eI (vs1 eI))))) t28.1, .val eI t28.2, .val eI at_32, .any, .any, .any], [.dead, .dead, .lst none (eT (vsC eI (vsC eI (vsC eI (vs1 eI))))) roll_43]⟩ _ _
    refine bj_frz (k := 2) (en := (eT (vsC eI (vsC eI (vsC eI (vs1 eI)))))) rfl ?_
    change BJ _ _ _ _ ⟨[.bor eI script, .val (eL eI) below_4, .val eI kind_6, .val (eL eI) springs_10, .val eI far_15, .val (eL (eT (vsC eI (vsC eI (vsC eI (vs1 eI)))))) roll_43, .val (eL eI) s18.2, .any, .val (eT (vsC eI (vsC eI (vsC eI (vs1 eI))))) t28.1, .val eI t28.2, .val eI at_32, .any, .any, .any], [.dead, .dead, .dead]⟩ _ _
    refine bj_own (i := 6) am (fj_cat (mj_fj (fj_cat_p (mj_fj (fj_slice_p (lj_ej (ej_var (i := 6))) oj_none (oj_some_p (ej_var (i := 10))))) (mj_fj (fj_lst (en := eI) (ij_cons_p (ej_var (i := 9)) ij_nil))))) (mj_fj (fj_slice_p (lj_ej (ej_var (i := 6))) (oj_some_p (ej_var (i := 10))) oj_none))) (fun calls_46 => ?_)
    change BJ _ _ _ _ ⟨[.bor eI script, .val (eL eI) below_4, .val eI kind_6, .val (eL eI) springs_10, .val eI far_15, .val (eL (eT (vsC eI (vsC eI (vsC eI (vs1 eI)))))) roll_43, .own 3, .any, .val (eT (vsC eI (vsC eI (vsC eI (vs1 eI))))) t28.1, .val eI t28.2, .val eI at_32, .any, .any, .any], [.dead, .dead, .dead, .lst none eI calls_46]⟩ _ _
    refine bj_frz (k := 3) (en := eI) rfl ?_
    change BJ _ _ _ _ ⟨[.bor eI script, .val (eL eI) below_4, .val eI kind_6, .val (eL eI) springs_10, .val eI far_15, .val (eL (eT (vsC eI (vsC eI (vsC eI (vs1 eI)))))) roll_43, .val (eL eI) calls_46, .any, .val (eT (vsC eI (vsC eI (vsC eI (vs1 eI))))) t28.1, .val eI t28.2, .val eI at_32, .any, .any, .any], [.dead, .dead, .dead, .dead]⟩ _ _
    refine bj_ownP (i := 11) (E := (pkI .lst (vwC (fV (eL eI)) (vwC (fV (eL eI)) (vwC (fL (eT (vsC eI (vsC eI (vsC eI (vs1 eI)))))) (vw1 (fV (eL eI)))))))) am (mpj_lst (nj_vC_p (ej_fj (fj_list b_list (lj_ej (ej_var (i := 1))))) (nj_vC_p (ej_fj (fj_list b_list (lj_ej (ej_var (i := 3))))) (nj_nC_p (fj_list b_list (lj_ej (ej_var (i := 5)))) (nj_v1 (ej_fj (fj_list b_list (lj_ej (ej_var (i := 6)))))))))) (fun handed_47 => ?_)
    change BJ _ _ _ _ ⟨[.bor eI script, .val (eL eI) below_4, .val eI kind_6, .val (eL eI) springs_10, .val eI far_15, .val (eL (eT (vsC eI (vsC eI (vsC eI (vs1 eI)))))) roll_43, .val (eL eI) calls_46, .any, .val (eT (vsC eI (vsC eI (vsC eI (vs1 eI))))) t28.1, .val eI t28.2, .val eI at_32, .own 4, .any, .any], [.dead, .dead, .dead, .dead, .pk none (pkI .lst (vwC (fV (eL eI)) (vwC (fV (eL eI)) (vwC (fL (eT (vsC eI (vsC eI (vsC eI (vs1 eI)))))) (vw1 (fV (eL eI))))))) handed_47]⟩ _ _
    refine bj_ifr (tj_tmp (sp' := ⟨[.bor eI script, .val (eL eI) below_4, .val eI kind_6, .val (eL eI) springs_10, .val eI far_15, .val (eL (eT (vsC eI (vsC eI (vsC eI (vs1 eI)))))) roll_43, .val (eL eI) calls_46, .any, .val (eT (vsC eI (vsC eI (vsC eI (vs1 eI))))) t28.1, .val eI t28.2, .val eI at_32, .val (eH (vsC (eL eI) (vsC (eL eI) (vsC (eL (eT (vsC eI (vsC eI (vsC eI (vs1 eI)))))) (vs1 (eL eI)))))) handed_47, .any, .any], [.dead, .dead, .dead, .dead, .dead]⟩) (fr_pk (en := (eH (vsC (eL eI) (vsC (eL eI) (vsC (eL (eT (vsC eI (vsC eI (vsC eI (vs1 eI)))))) (vs1 (eL eI))))))) 4 (fzH (fzC fzV (fzC fzV (fzC fzL (fz1 fzV))))) rfl fr_refl) (tj_wj (wj_or (tj_not (tj_val (ej_call_p (mf := (fun (g : (List Int) × (List Int) × (List (Int × Int × Int × Int)) × (List Int) × Unit) => m_law_refused g.1 g.2.1 g.2.2.1 g.2.2.2.1)) (g := (handed_47.1, handed_47.2.1, handed_47.2.2.1, handed_47.2.2.2, ())) am c__law_refused (by decide) (aj_lst_p (lj_ej (ej_hix_p 0 (f := fun (g : (List Int) × (List Int) × (List (Int × Int × Int × Int)) × (List Int)) => g.1) (ej_var (i := 11)) vat0)) (aj_lst_p (lj_ej (ej_hix_p 1 (f := fun (g : (List Int) × (List Int) × (List (Int × Int × Int × Int)) × (List Int)) => g.2.1) (ej_var (i := 11)) (vatS vat0))) (aj_lst_p (lj_ej (ej_hix_p 2 (f := fun (g : (List Int) × (List Int) × (List (Int × Int × Int × Int)) × (List Int)) => g.2.2.1) (ej_var (i := 11)) (vatS (vatS vat0)))) (aj_lst_p (lj_ej (ej_hix_p 3 (f := fun (g : (List Int) × (List Int) × (List (Int × Int × Int × Int)) × (List Int)) => g.2.2.2) (ej_var (i := 11)) (vatS (vatS (vatS vat1))))) aj_nil))))))) (wj_or1 (tj_cmp (cj_neD_p hU (eqH (eqvC (eqL eqI) (eqvC (eqL eqI) (eqvC (eqL (eqT (eqvC eqI (eqvC eqI (eqvC eqI (eqv1 eqI)))))) (eqv1 (eqL eqI)))))) (dj_ej (ej_var (i := 11))) (dj_ej (ej_hl (vj_cons_p (ej_var (i := 1)) (vj_cons_p (ej_var (i := 3)) (vj_cons_p (ej_var (i := 5)) (vj_one (ej_var (i := 6)))))))))))))) (fun n61 => ?_) ?_
    · change BJ _ _ _ _ ⟨[.bor eI script, .val (eL eI) below_4, .val eI kind_6, .val (eL eI) springs_10, .val eI far_15, .val (eL (eT (vsC eI (vsC eI (vsC eI (vs1 eI)))))) roll_43, .val (eL eI) calls_46, .any, .val (eT (vsC eI (vsC eI (vsC eI (vs1 eI))))) t28.1, .val eI t28.2, .val eI at_32, .own 4, .any, .any], [.dead, .dead, .dead, .dead, .pk none (pkI .lst (vwC (fV (eL eI)) (vwC (fV (eL eI)) (vwC (fL (eT (vsC eI (vsC eI (vsC eI (vs1 eI)))))) (vw1 (fV (eL eI))))))) handed_47]⟩ _ _
      exact bj_ret hR ej_bl
    · change BJ _ _ _ _ ⟨[.bor eI script, .val (eL eI) below_4, .val eI kind_6, .val (eL eI) springs_10, .val eI far_15, .val (eL (eT (vsC eI (vsC eI (vsC eI (vs1 eI)))))) roll_43, .val (eL eI) calls_46, .any, .val (eT (vsC eI (vsC eI (vsC eI (vs1 eI))))) t28.1, .val eI t28.2, .val eI at_32, .own 4, .any, .any], [.dead, .dead, .dead, .dead, .pk none (pkI .lst (vwC (fV (eL eI)) (vwC (fV (eL eI)) (vwC (fL (eT (vsC eI (vsC eI (vsC eI (vs1 eI)))))) (vw1 (fV (eL eI))))))) handed_47]⟩ _ _
      refine bj_putIx (i := 11) (o := 4) (fun w51 => (handed_47.1, handed_47.2.1, w51, handed_47.2.2.2)) 2 rfl rfl (fj_lc_pp (bd := fun (y50 : Int × Int × Int × Int) sl => (sl.set 13 (.val (eT (vsC eI (vsC eI (vsC eI (vs1 eI))))) y50))) (en := (eT (vsC eI (vsC eI (vsC eI (vs1 eI)))))) (en' := (eT (vsC eI (vsC eI (vsC eI (vs1 eI)))))) (own := [("line", 13)]) (is := [13]) am (blkOk_by (N := N_law) (sc := defScope s_law) (by decide +kernel)) (by exact (sj_list (kj_ej (ej_var (i := 5))))) (by exact fun s1 H1 C1 cl1 fp1 => (gj_name (i := 13) (am.blk s1 H1 C1 cl1 fp1).nd)) (by exact fun y50 s1 H1 C1 cl1 fp1 => (ej_tup (vj_cons_p (ej_tix_p 0 (f := fun (g : Int × Int × Int × Int) => g.1) (ej_var (i := 13)) vat0) (vj_cons_p (ej_tix_p 1 (f := fun (g : Int × Int × Int × Int) => g.2.1) (ej_var (i := 13)) (vatS vat0)) (vj_cons_p (ej_neg_p ej_int) (vj_one (ej_tix_p 3 (f := fun (g : Int × Int × Int × Int) => g.2.2.2) (ej_var (i := 13)) (vatS (vatS (vatS vat1))))))))))) rfl (fun _ => rfl) (fun w51 => ?_)
      change BJ _ _ _ _ ⟨[.bor eI script, .val (eL eI) below_4, .val eI kind_6, .val (eL eI) springs_10, .val eI far_15, .val (eL (eT (vsC eI (vsC eI (vsC eI (vs1 eI)))))) roll_43, .val (eL eI) calls_46, .any, .val (eT (vsC eI (vsC eI (vsC eI (vs1 eI))))) t28.1, .val eI t28.2, .val eI at_32, .own 4, .any, .any], [.dead, .dead, .dead, .dead, .pk none (pkI .lst (vwC (fV (eL eI)) (vwC (fV (eL eI)) (vwC (fL (eT (vsC eI (vsC eI (vsC eI (vs1 eI)))))) (vw1 (fV (eL eI))))))) ((handed_47.1, handed_47.2.1, w51, handed_47.2.2.2))]⟩ _ _
      refine bj_frzPk (k := 4) (en := (eH (vsC (eL eI) (vsC (eL eI) (vsC (eL (eT (vsC eI (vsC eI (vsC eI (vs1 eI)))))) (vs1 (eL eI))))))) (fzH (fzC fzV (fzC fzV (fzC fzL (fz1 fzV))))) rfl ?_
      change BJ _ _ _ _ ⟨[.bor eI script, .val (eL eI) below_4, .val eI kind_6, .val (eL eI) springs_10, .val eI far_15, .val (eL (eT (vsC eI (vsC eI (vsC eI (vs1 eI)))))) roll_43, .val (eL eI) calls_46, .any, .val (eT (vsC eI (vsC eI (vsC eI (vs1 eI))))) t28.1, .val eI t28.2, .val eI at_32, .val (eH (vsC (eL eI) (vsC (eL eI) (vsC (eL (eT (vsC eI (vsC eI (vsC eI (vs1 eI)))))) (vs1 (eL eI)))))) ((handed_47.1, handed_47.2.1, w51, handed_47.2.2.2)), .any, .any], [.dead, .dead, .dead, .dead, .dead]⟩ _ _
      refine bj_asg (i := 12) am (ej_call_p (mf := (fun (g : (List Int) × (List Int) × (List (Int × Int × Int × Int)) × (List Int) × Unit) => m_cut_of g.1 g.2.1 g.2.2.1 g.2.2.2.1)) (g := (((handed_47.1, handed_47.2.1, w51, handed_47.2.2.2)).1, ((handed_47.1, handed_47.2.1, w51, handed_47.2.2.2)).2.1, ((handed_47.1, handed_47.2.1, w51, handed_47.2.2.2)).2.2.1, ((handed_47.1, handed_47.2.1, w51, handed_47.2.2.2)).2.2.2, ())) am c_cut_of (by decide) (aj_lst_p (lj_ej (ej_hix_p 0 (f := fun (g : (List Int) × (List Int) × (List (Int × Int × Int × Int)) × (List Int)) => g.1) (ej_var (i := 11)) vat0)) (aj_lst_p (lj_ej (ej_hix_p 1 (f := fun (g : (List Int) × (List Int) × (List (Int × Int × Int × Int)) × (List Int)) => g.2.1) (ej_var (i := 11)) (vatS vat0))) (aj_lst_p (lj_ej (ej_hix_p 2 (f := fun (g : (List Int) × (List Int) × (List (Int × Int × Int × Int)) × (List Int)) => g.2.2.1) (ej_var (i := 11)) (vatS (vatS vat0)))) (aj_lst_p (lj_ej (ej_hix_p 3 (f := fun (g : (List Int) × (List Int) × (List (Int × Int × Int × Int)) × (List Int)) => g.2.2.2) (ej_var (i := 11)) (vatS (vatS (vatS vat1))))) aj_nil))))) (fun found_52 => ?_)
      change BJ _ _ _ _ ⟨[.bor eI script, .val (eL eI) below_4, .val eI kind_6, .val (eL eI) springs_10, .val eI far_15, .val (eL (eT (vsC eI (vsC eI (vsC eI (vs1 eI)))))) roll_43, .val (eL eI) calls_46, .any, .val (eT (vsC eI (vsC eI (vsC eI (vs1 eI))))) t28.1, .val eI t28.2, .val eI at_32, .val (eH (vsC (eL eI) (vsC (eL eI) (vsC (eL (eT (vsC eI (vsC eI (vsC eI (vs1 eI)))))) (vs1 (eL eI)))))) ((handed_47.1, handed_47.2.1, w51, handed_47.2.2.2)), .val (eT (vsC eI (vsC (eL eI) (vs1 (eL eI))))) found_52, .any], [.dead, .dead, .dead, .dead, .dead]⟩ _ _
      refine bj_ifr (tj_wj (wj_or (tj_not_p (tj_val (ej_isi_p tyT b_isinstance b_tuple boot_tuple (by decide +kernel) (ej_var (i := 12))))) (wj_or (tj_cmp (cj_ne_p scI (ej_lenT_p (z := 3) (vsnC (vsnC vsn1)) rfl b_len (ej_var (i := 12))) ej_int)) (wj_or1 (tj_not (tj_val (ej_call_p (mf := (fun (g : Int × Unit) => m_law_whole g.1)) (g := (found_52.1, ())) am c__law_whole (by decide) (aj_val_p (ej_tix_p 0 (f := fun (g : Int × (List Int) × (List Int)) => g.1) (ej_var (i := 12)) vat0) aj_nil)))))))) (fun n59 => ?_) ?_
      · change BJ _ _ _ _ ⟨[.bor eI script, .val (eL eI) below_4, .val eI kind_6, .val (eL eI) springs_10, .val eI far_15, .val (eL (eT (vsC eI (vsC eI (vsC eI (vs1 eI)))))) roll_43, .val (eL eI) calls_46, .any, .val (eT (vsC eI (vsC eI (vsC eI (vs1 eI))))) t28.1, .val eI t28.2, .val eI at_32, .val (eH (vsC (eL eI) (vsC (eL eI) (vsC (eL (eT (vsC eI (vsC eI (vsC eI (vs1 eI)))))) (vs1 (eL eI)))))) ((handed_47.1, handed_47.2.1, w51, handed_47.2.2.2)), .val (eT (vsC eI (vsC (eL eI) (vs1 (eL eI))))) found_52, .any], [.dead, .dead, .dead, .dead, .dead]⟩ _ _
        exact bj_ret hR ej_bl
      · change BJ _ _ _ _ ⟨[.bor eI script, .val (eL eI) below_4, .val eI kind_6, .val (eL eI) springs_10, .val eI far_15, .val (eL (eT (vsC eI (vsC eI (vsC eI (vs1 eI)))))) roll_43, .val (eL eI) calls_46, .any, .val (eT (vsC eI (vsC eI (vsC eI (vs1 eI))))) t28.1, .val eI t28.2, .val eI at_32, .val (eH (vsC (eL eI) (vsC (eL eI) (vsC (eL (eT (vsC eI (vsC eI (vsC eI (vs1 eI)))))) (vs1 (eL eI)))))) ((handed_47.1, handed_47.2.1, w51, handed_47.2.2.2)), .val (eT (vsC eI (vsC (eL eI) (vs1 (eL eI))))) found_52, .any], [.dead, .dead, .dead, .dead, .dead]⟩ _ _
        exact bj_ret hR (ej_cmp (cj_eq scI (ej_tix_p 0 (f := fun (g : Int × (List Int) × (List Int)) => g.1) (ej_var (i := 12)) vat0) (ej_sum b_sum (lj_fj (fj_call_p (mf := (fun (g : (List Int) × (List Int) × (List (Int × Int × Int × Int)) × (List Int) × Unit) => m_deal g.1 g.2.1 g.2.2.1 g.2.2.2.1)) (g := (((handed_47.1, handed_47.2.1, w51, handed_47.2.2.2)).1, ((handed_47.1, handed_47.2.1, w51, handed_47.2.2.2)).2.1, ((handed_47.1, handed_47.2.1, w51, handed_47.2.2.2)).2.2.1, ((handed_47.1, handed_47.2.1, w51, handed_47.2.2.2)).2.2.2, ())) am c_deal (by decide) (aj_lst_p (lj_ej (ej_hix_p 0 (f := fun (g : (List Int) × (List Int) × (List (Int × Int × Int × Int)) × (List Int)) => g.1) (ej_var (i := 11)) vat0)) (aj_lst_p (lj_ej (ej_hix_p 1 (f := fun (g : (List Int) × (List Int) × (List (Int × Int × Int × Int)) × (List Int)) => g.2.1) (ej_var (i := 11)) (vatS vat0))) (aj_lst_p (lj_ej (ej_hix_p 2 (f := fun (g : (List Int) × (List Int) × (List (Int × Int × Int × Int)) × (List Int)) => g.2.2.1) (ej_var (i := 11)) (vatS (vatS vat0)))) (aj_lst_p (lj_ej (ej_hix_p 3 (f := fun (g : (List Int) × (List Int) × (List (Int × Int × Int × Int)) × (List Int)) => g.2.2.2) (ej_var (i := 11)) (vatS (vatS (vatS vat1))))) aj_nil)))))))))

end Hd
open PySem PySem.W PySem.Calls PyProof.Rows
theorem lawWit : (OpenLaw.row PySem.Challenge.rw_sluice_k33_cut_refused).toRowW.promised := by w_witness2
theorem lawWalk (hmath : ∀ ns : List Int, ns.length ≤ 63 → (∀ z ∈ ns, Builtin.Int.intBits z ≤ 1048576) → Mr.m_law ns = .ok true) : WalkO (view (OpenLaw.row PySem.Challenge.rw_sluice_k33_cut_refused).prog [59]) Hd.loose (PySem.W.XL (view (OpenLaw.row PySem.Challenge.rw_sluice_k33_cut_refused).prog [59]) []) Hd.hk.says (OpenLaw.row PySem.Challenge.rw_sluice_k33_cut_refused).toRowW (HandSHeadRun.topDef (OpenLaw.row PySem.Challenge.rw_sluice_k33_cut_refused).prog 59) [] (fun f vs => PySem.call f vs) := by
  refine Wk.walk_Z (l := PySem.Challenge.rw_sluice_k33_cut_refused) (n := 63) (k := 9) (x := "script") rfl (by decide) (by kernel_rfl) ⟨rfl, by decide, by decide⟩ ?F hmath
  intro w mg fa h Y G hmg0
  obtain ⟨K, KX, c⟩ := Y
  have hmg : mg ("law" : PySem.Str) = some (.ref fa) := by
    have e : (HandSHeadRun.topDef (OpenLaw.row PySem.Challenge.rw_sluice_k33_cut_refused).prog 59).name = ("law" : PySem.Str) := by kernel_rfl
    rw [← e]
    exact hmg0
  have T : Hd.Fx K mg := ⟨h, KX, G, congrArg Prod.snd c, congrArg Prod.fst c⟩
  obtain ⟨fd, F⟩ : ∃ fd, L2.FunD K "law" "law" (L2.defArgs Hd.s_law) (L2.defBody Hd.s_law) (L2.defScope Hd.s_law) [] [] (He.ga K "law") fd := T.def_ 33
  have e := hmg.symm.trans (T.glo 33)
  have e2 : fa = He.ga K "law" := by
    injection e with e
    injection e
  subst e2
  have b := L2.FunD.bindsA (ps := ["script"]) F fun _ _ _ _ _ _ us hl => match us, hl with | [_], _ => rfl
  exact ⟨K, fd, KX, fun s v => b s [v] rfl, fun base _ _ => Hd.ok_law T F⟩
theorem lawEnd (hmath : ∀ ns : List Int, ns.length ≤ 63 → (∀ z ∈ ns, Builtin.Int.intBits z ≤ 1048576) → Mr.m_law ns = .ok true) : PySem.Challenge.rw_sluice_k33_cut_refused.Holds := by
  w_on; o_law
  exact HandSHeadRun.head_any (r := OpenLaw.row PySem.Challenge.rw_sluice_k33_cut_refused) (q := view (OpenLaw.row PySem.Challenge.rw_sluice_k33_cut_refused).prog [59]) (H := Hd.hk) (ob := Hd.ob) (M := 17400) (loose := Hd.loose) (d := HandSHeadRun.topDef (OpenLaw.row PySem.Challenge.rw_sluice_k33_cut_refused).prog 59) (kwd := []) Hd.ob_eq
    (by kernel_rfl) (fun s => by kernel_rfl) Hd.run (by kernel_rfl) (by kernel_rfl) (by kernel_rfl) (by rfl) (by first | assumption | decide +kernel) (by decide +kernel) ⟨rfl, rfl, rfl, rfl, rfl, by decide +kernel⟩ lawWit (lawWalk hmath)
theorem PySem.Challenge.cw_sluice_k33_cut_refused_holds : PySem.Challenge.rw_sluice_k33_cut_refused.Holds := by
  exact lawEnd fun ns _ hb => Mr.law_ok ns hb
