import PyProof.Rows.All
import Wide.All
import OpenK.AllK
import Wide.FinOn
import KE.KStateDown
import HandS.ForMost
import HandS.ForSpec
import HandS.More
import HandS.Defaults
import HandS.Wide
import HandS.Zip
import HandS.Sort
import HandS.SortRule
import HandS.SortInts
import HandS.IsInst
import HandS.Head0
import HandS.Head1
import HandS.Head2
import HandS.HeadEnd
import HandS.HeadHook1
import HandS.HeadHook2
import HandS.EndBits
import KE.DataEq
import HandS.Conv
import HandS.Rev
import HandS.Style
import HandS.SetFor
import HandS.Strs
import HandS.ExcOwn
import HandS.ExcIs
import HandS.CallSlots
import HandS.Codes
import PyProof.StrOps2
import HandS.Text
import KE.GoesMore
import PyProof.EnumMake
import PySem.Challenge.RW_sluice_k02_ways_and_above
set_option Elab.async false
set_option linter.all false
set_option maxRecDepth 100000
set_option maxHeartbeats 4000000
namespace Wk
open PySem PySem.Spec PyProof.Rows L2
abbrev Frag := PySem.W.Frag
abbrev Sg : Type := List (Option V)

/-! ### mirrors -/
inductive Res (α : Type) where
  | ok (a : α) | exc (c : Str) | bad
def Res.bi {α β : Type} (m : Res α) (f : α → Res β) : Res β := match m with
  | .ok a => f a
  | .exc c => .exc c
  | .bad => .bad
/-- a guard -/
@[irreducible] def gd {α : Type} (c : Prop) [Decidable c] (a : α) : Res α := if c then .ok a else .bad
/-- what may not raise -/
def Res.nx {α : Type} : Res α → Res α
  | .ok a => .ok a
  | _ => .bad
def mwp {α : Type} (m : Res α) (Q : α → Prop) (E : Str → Prop) : Prop := match m with
  | .ok a => Q a
  | .exc c => E c
  | .bad => False
section
variable {α β : Type} {m : Res α} {f : α → Res β} {Q Q' : α → Prop} {R : β → Prop} {E E' : Str → Prop}
theorem mwp_bi : mwp (m.bi f) R E ↔ mwp m (fun a => mwp (f a) R E) E := by
  cases m <;> exact Iff.rfl
theorem mwp.bi (h : mwp (m.bi f) R E) : mwp m (fun a => mwp (f a) R E) E := mwp_bi.mp h
theorem mwp.imp (h : mwp m Q E) (q : ∀ a, Q a → Q' a) : mwp m Q' E := by
  cases m with
  | ok a => exact q a h
  | exc c => exact h
  | bad => exact h
theorem mwp.imp2 (h : mwp m Q E) (q : ∀ a, Q a → Q' a) (e : ∀ c, E c → E' c) : mwp m Q' E' := by
  cases m with
  | ok a => exact q a h
  | exc c => exact e c h
  | bad => exact h
theorem mwp.gd {a : α} {c : Prop} [Decidable c] (h : mwp (gd c a) Q E) : c ∧ Q a := by
  unfold Wk.gd at h
  by_cases hc : c
  · rw [if_pos hc] at h; exact ⟨hc, h⟩
  · rw [if_neg hc] at h; exact h.elim
theorem mwp.nx (h : mwp m.nx Q E) : mwp m Q (fun _ => False) := by
  cases m with
  | ok a => exact h
  | exc c => exact h
  | bad => exact h
@[simp] theorem ok_bi {a : α} : (Res.ok a).bi f = f a := rfl
@[simp] theorem exc_bi {c : Str} : (Res.exc c : Res α).bi f = .exc c := rfl
@[simp] theorem bad_bi : (Res.bad : Res α).bi f = .bad := rfl
@[simp] theorem nx_ok {a : α} : (Res.ok a).nx = .ok a := rfl
theorem gd_pos {c : Prop} [Decidable c] {a : α} (h : c) : gd c a = .ok a := by
  unfold gd
  exact if_pos h
theorem bi_bi {γ : Type} {g : β → Res γ} : (m.bi f).bi g = m.bi fun a => (f a).bi g := by cases m <;> rfl
end

/-! ### weakest readings -/
@[irreducible] def wE (X : Cx) (e : Expr) : TE := fun σ H Q => ∀ (pins : List (Addr × Obj)) (s : Shared), Inv X pins σ H s → wpAny (model X.prog X.w) X.A (eval e X.env) (EP X pins σ Q) X.xe s
@[irreducible] def wT (X : Cx) (e : Expr) : TT := fun σ H Q => ∀ (pins : List (Addr × Obj)) (s : Shared), Inv X pins σ H s → wpAny (model X.prog X.w) X.A (isTrue e X.env (eval e X.env)) (TP X pins σ Q) X.xe s
@[irreducible] def wW (X : Cx) (e : Expr) : TT := fun σ H Q => ∀ (whole : Sem Value) (pins : List (Addr × Obj)) (s : Shared), Inv X pins σ H s → wpAny (model X.prog X.w) X.A (isTrue e X.env whole) (TP X pins σ Q) X.xe s
@[irreducible] def wA (X : Cx) (es : List Expr) : TA := fun σ H Q => ∀ (pos : Pos) (pins : List (Addr × Obj)) (s : Shared), Inv X pins σ H s → wpAny (model X.prog X.w) X.A (spliced (backTo pos (starEach es X.env))) (AP X pins σ Q) X.xe s
@[irreducible] def wS (X : Cx) (st : Stmt) : TS := fun D σ H => ∀ (pins : List (Addr × Obj)) (s : Shared), Inv X pins σ H s → wpAny (model X.prog X.w) X.A (exec st X.env) (SP X pins D) X.xe s
@[irreducible] def wB (X : Cx) (st : List Stmt) : TS := fun D σ H => ∀ (pins : List (Addr × Obj)) (s : Shared), Inv X pins σ H s → wpAny (model X.prog X.w) X.A (execs st X.env) (SP X pins D) X.xe s
@[irreducible] def wG (X : Cx) (tg : Expr) : TG := fun v σ H Q => ∀ (pins : List (Addr × Obj)) (s : Shared) (u : Value), Inv X pins σ H s → RelV v u → wpAny (model X.prog X.w) X.A (assign tg X.env u) (fun _ s' => ∃ σ' H', Inv X pins σ' H' s' ∧ Q σ' H') X.xe s
@[irreducible] def wI (X : Cx) (tg it : Expr) : TI := fun σ H R => ∀ (pins : List (Addr × Obj)) (s : Shared), Inv X pins σ H s → wpAny (model X.prog X.w) X.A (eval it X.env) (fun v s1 => wpAny (model X.prog X.w) X.A (pyIter v) (PIE X pins σ tg R) X.xe s1) X.xe s
def wO (X : Cx) (e : Option Expr) : TO := fun σ H Q => ∃ t : TO, PO X e t ∧ t σ H Q
section
variable {X : Cx} {e : Expr} {es : List Expr} {st : Stmt} {sts : List Stmt} {tg it : Expr}
theorem pe_w : PE X e (wE X e) := ⟨fun pins s _ _ _ I h => by
  unfold wE at h
  exact h pins s I⟩
theorem pt_w : PT X e (wT X e) := ⟨fun pins s _ _ _ I h => by
  unfold wT at h
  exact h pins s I⟩
theorem pw_w : PW X e (wW X e) := ⟨fun wh pins s _ _ _ I h => by
  unfold wW at h
  exact h wh pins s I⟩
theorem pa_w : PA X es (wA X es) := ⟨fun pos pins s _ _ _ I h => by
  unfold wA at h
  exact h pos pins s I⟩
theorem ps_w : PS X st (wS X st) := ⟨fun pins s _ _ _ I h => by
  unfold wS at h
  exact h pins s I⟩
theorem pb_w : PSs X sts (wB X sts) := ⟨fun pins s _ _ _ I h => by
  unfold wB at h
  exact h pins s I⟩
theorem pg_w : PG X tg (wG X tg) := ⟨fun pins s _ _ _ u _ I r h => by
  unfold wG at h
  exact h pins s u I r⟩
theorem pi_w : PI X tg it (wI X tg it) := ⟨fun pins s _ _ _ I h => by
  unfold wI at h
  exact h pins s I⟩
variable {σ : Sg} {H : Hp}
theorem ofE {t : TE} {Q : VK} (h : PE X e t) (q : t σ H Q) : wE X e σ H Q := by
  unfold wE
  exact fun pins s I => h.run pins s σ H Q I q
theorem ofT {t : TT} {Q : Bool → Hp → Prop} (h : PT X e t) (q : t σ H Q) : wT X e σ H Q := by
  unfold wT
  exact fun pins s I => h.run pins s σ H Q I q
theorem ofW {t : TT} {Q : Bool → Hp → Prop} (h : PW X e t) (q : t σ H Q) : wW X e σ H Q := by
  unfold wW
  exact fun wh pins s I => h.run wh pins s σ H Q I q
theorem ofA {t : TA} {Q : List V → Hp → Prop} (h : PA X es t) (q : t σ H Q) : wA X es σ H Q := by
  unfold wA
  exact fun pos pins s I => h.run pos pins s σ H Q I q
theorem ofS {t : TS} {D : Ends} (h : PS X st t) (q : t D σ H) : wS X st D σ H := by
  unfold wS
  exact fun pins s I => h.run pins s σ H D I q
theorem ofB {t : TS} {D : Ends} (h : PSs X sts t) (q : t D σ H) : wB X sts D σ H := by
  unfold wB
  exact fun pins s I => h.run pins s σ H D I q
theorem ofG {t : TG} {v : V} {Q : Sg → Hp → Prop} (h : PG X tg t) (q : t v σ H Q) : wG X tg v σ H Q := by
  unfold wG
  exact fun pins s u I r => h.run pins s σ H v u Q I r q
theorem ofI {t : TI} {R : It → Hp → Prop} (h : PI X tg it t) (q : t σ H R) : wI X tg it σ H R := by
  unfold wI
  exact fun pins s I => h.run pins s σ H R I q
end

/-! ### typed data -/
/-- how a value shows data of a type in a part of the heap that stays -/
structure Enc (K : Frag) (α : Type) where
  rep : Hp → V → α → Prop
  mono : ∀ {F F' : Hp} {v : V} {a : α}, Same F F' → rep F v a → rep F' v a
/-- the values in a row -/
structure VsE (K : Frag) (γ : Type) where
  rep : Hp → List V → γ → Prop
  mono : ∀ {F F' : Hp} {vs : List V} {a : γ}, Same F F' → rep F vs a → rep F' vs a
section
variable {K : Frag} {α β γ : Type}
def eI : Enc K Int := ⟨fun _ v i => v = .int i, fun _ h => h⟩
def eB : Enc K Bool := ⟨fun _ v b => v = .bl b, fun _ h => h⟩
def eS : Enc K Str := ⟨fun _ v x => v = .str x, fun _ h => h⟩
def eU : Enc K Unit := ⟨fun _ v _ => v = .non, fun _ h => h⟩
abbrev Reps (e : Enc K α) (F : Hp) : List V → List α → Prop := Paired fun v a => e.rep F v a
theorem Paired.imp {α β : Type} {F G : α → β → Prop} (f : ∀ a b, F a b → G a b) : ∀ {l₁ : List α} {l₂ : List β}, Paired F l₁ l₂ → Paired G l₁ l₂
  | _, _, .nil => .nil
  | _, _, .cons r t => .cons (f _ _ r) (Paired.imp f t)
theorem Reps.mono {e : Enc K α} {F F' : Hp} {vs : List V} {xs : List α} (s : Same F F') (h : Reps e F vs xs) : Reps e F' vs xs := Paired.imp (fun _ _ r => e.mono s r) h
theorem Reps.int {F : Hp} : ∀ {vs : List V} {xs : List Int}, Reps (eI : Enc K Int) F vs xs → vs = xs.map V.int
  | _, _, .nil => rfl
  | _, _, .cons r t => by rw [List.map_cons, ← Reps.int t, show _ = _ from r]
theorem Reps.ofInt {F : Hp} : ∀ (xs : List Int), Reps (eI : Enc K Int) F (xs.map V.int) xs
  | [] => .nil
  | _ :: xs => .cons rfl (Reps.ofInt xs)
theorem Reps.get {e : Enc K α} {F : Hp} : ∀ {vs : List V} {xs : List α} {i : Nat} {x : α}, Reps e F vs xs → xs[i]? = some x → ∃ v, vs[i]? = some v ∧ e.rep F v x
  | _, _, _, _, .nil, h => by simp at h
  | _, _, 0, _, .cons r _, h => by
    simp at h; subst h; exact ⟨_, rfl, r⟩
  | _, _, i + 1, _, .cons _ t, h => by
    obtain ⟨v, h1, h2⟩ := Reps.get (i := i) t (by simpa using h)
    exact ⟨v, by simpa using h1, h2⟩
theorem Reps.getV {e : Enc K α} {F : Hp} : ∀ {vs : List V} {xs : List α} {i : Nat} {v : V}, Reps e F vs xs → vs[i]? = some v → ∃ x, xs[i]? = some x ∧ e.rep F v x
  | _, _, _, _, .nil, h => by simp at h
  | _, _, 0, _, .cons r _, h => by
    simp at h; subst h; exact ⟨_, rfl, r⟩
  | _, _, i + 1, _, .cons _ t, h => by
    obtain ⟨v, h1, h2⟩ := Reps.getV (i := i) t (by simpa using h)
    exact ⟨v, by simpa using h1, h2⟩
theorem Reps.snoc {e : Enc K α} {F : Hp} {vs : List V} {xs : List α} {v : V} {x : α} (h : Reps e F vs xs) (r : e.rep F v x) : Reps e F (vs ++ [v]) (xs ++ [x]) := Paired.snoc h r
theorem Reps.append {e : Enc K α} {F : Hp} : ∀ {vs ws : List V} {xs ys : List α}, Reps e F vs xs → Reps e F ws ys → Reps e F (vs ++ ws) (xs ++ ys)
  | _, _, _, _, .nil, h => h
  | _, _, _, _, .cons r t, h => .cons r (Reps.append t h)
theorem Reps.take {e : Enc K α} {F : Hp} : ∀ {vs : List V} {xs : List α} (n : Nat), Reps e F vs xs → Reps e F (vs.take n) (xs.take n)
  | _, _, 0, _ => .nil
  | _, _, _ + 1, .nil => .nil
  | _, _, n + 1, .cons r t => .cons r (Reps.take n t)
theorem Reps.drop {e : Enc K α} {F : Hp} : ∀ {vs : List V} {xs : List α} (n : Nat), Reps e F vs xs → Reps e F (vs.drop n) (xs.drop n)
  | _, _, 0, h => h
  | _, _, _ + 1, .nil => .nil
  | _, _, n + 1, .cons _ t => Reps.drop n t
theorem Reps.set {e : Enc K α} {F : Hp} {v : V} {x : α} (r : e.rep F v x) : ∀ {vs : List V} {xs : List α} (n : Nat), Reps e F vs xs → Reps e F (vs.set n v) (xs.set n x)
  | _, _, _, .nil => .nil
  | _, _, 0, .cons _ t => .cons r t
  | _, _, n + 1, .cons q t => .cons q (Reps.set r n t)
theorem Reps.reverse {e : Enc K α} {F : Hp} : ∀ {vs : List V} {xs : List α}, Reps e F vs xs → Reps e F vs.reverse xs.reverse
  | _, _, .nil => .nil
  | _, _, .cons r t => by
    rw [List.reverse_cons, List.reverse_cons]
    exact Reps.snoc (Reps.reverse t) r
theorem Reps.length {e : Enc K α} {F : Hp} {vs : List V} {xs : List α} (h : Reps e F vs xs) : vs.length = xs.length := Paired.length h
theorem sqL_mono {F F' : Hp} {a : Addr} {xs : List V} (s : Same F F') (h : SqL K F a xs) : SqL K F' a xs := s.seq h
theorem sqT_mono {F F' : Hp} {a : Addr} {xs : List V} (s : Same F F') (h : SqT K F a xs) : SqT K F' a xs := by
  rcases h with (h | ⟨o, h⟩) | h
  · exact .inl (.inl (s _ _ h))
  · exact .inl (.inr ⟨o, s _ _ h⟩)
  · exact .inr h
def eL (e : Enc K α) : Enc K (List α) := ⟨fun F v xs => ∃ p vs, v = .ref p ∧ F p = some (.lst vs) ∧ vs.length ≤ sizeLine ∧ Reps e F vs xs, fun s ⟨p, vs, h1, h2, hz, h3⟩ => ⟨p, vs, h1, s _ _ h2, hz, h3.mono s⟩⟩
def eO (e : Enc K α) : Enc K (Option α) := ⟨fun F v o => match o with
  | some a => e.rep F v a
  | none => v = .non, fun {F F' v a} s h => by
    cases a with
    | none => exact h
    | some a => exact e.mono s h⟩
def vs1 (e : Enc K α) : VsE K α := ⟨fun F vs a => ∃ v, vs = [v] ∧ e.rep F v a, fun s ⟨v, h1, h2⟩ => ⟨v, h1, e.mono s h2⟩⟩
def vsC (e : Enc K α) (r : VsE K γ) : VsE K (α × γ) := ⟨fun F vs g => ∃ v ws, vs = v :: ws ∧ e.rep F v g.1 ∧ r.rep F ws g.2, fun s ⟨v, ws, h1, h2, h3⟩ => ⟨v, ws, h1, e.mono s h2, r.mono s h3⟩⟩
def eT (r : VsE K γ) : Enc K γ := ⟨fun F v g => ∃ p vs, v = .ref p ∧ F p = some (.tup vs) ∧ r.rep F vs g, fun s ⟨p, vs, h1, h2, h3⟩ => ⟨p, vs, h1, s _ _ h2, r.mono s h3⟩⟩
/-- the n-th value of a row -/
def VAt (r : VsE K γ) (n : Nat) (e : Enc K α) (f : γ → α) : Prop := ∀ F vs g, r.rep F vs g → ∃ v, vs[n]? = some v ∧ e.rep F v (f g)
theorem vat0 {e : Enc K α} {r : VsE K γ} : VAt (vsC e r) 0 e (fun g => g.1) := fun F vs g ⟨v, ws, h1, h2, _⟩ => ⟨v, by rw [h1]; rfl, h2⟩
theorem vat1 {e : Enc K α} : VAt (vs1 e) 0 e (fun g => g) := fun F vs g ⟨v, h1, h2⟩ => ⟨v, by rw [h1]; rfl, h2⟩
theorem vatS {e : Enc K α} {e' : Enc K β} {r : VsE K γ} {n : Nat} {f : γ → α} (h : VAt r n e f) : VAt (vsC e' r) (n + 1) e (fun g => f g.2) := fun F vs g ⟨v, ws, h1, h2, h3⟩ => by
  obtain ⟨u, h4, h5⟩ := h F ws g.2 h3
  exact ⟨u, by rw [h1]; exact h4, h5⟩
end

/-! ### the state of a frame -/
inductive Sl (K : Frag) : Type 1 where
  | any
  | val {α : Type} (e : Enc K α) (a : α)
  | bor {α : Type} (e : Enc K α) (xs : List α)
  | own (k : Nat)
/-- one object of ours, by what stands in it -/
structure OEnc (K : Frag) (σ : Type) where
  rep : Hp → HO → σ → Prop
  mono : ∀ {F F' : Hp} {o : HO} {s : σ}, Same F F' → rep F o s → rep F' o s
/-- a thing of ours that holds others of ours -/
structure PkE (K : Frag) (σ : Type) where
  rep : Hp → Hp → List Addr → Addr → σ → Prop
  go : ∀ {F H F' H' : Hp} {l : List Addr} {p : Addr} {s : σ}, Same F F' → (∀ q ∈ l, ∀ o, H q = some o → H' q = some o) → (∀ o, H p = some o → H' p = some o) → rep F H l p s → rep F' H' l p s
  st : ∀ {F H : Hp} {l : List Addr} {p : Addr} {s : σ}, rep F H l p s → H p ≠ none
theorem ll_go {K : Frag} {α : Type} {e : Enc K α} {F H F' H' : Hp} (f : Same F F') : ∀ {l : List Addr} {xss : List (List α)}, (∀ q ∈ l, ∀ o, H q = some o → H' q = some o) → Paired (fun q xs => ∃ vs, H q = some (.lst vs) ∧ vs.length ≤ sizeLine ∧ Reps e F vs xs) l xss → Paired (fun q xs => ∃ vs, H' q = some (.lst vs) ∧ vs.length ≤ sizeLine ∧ Reps e F' vs xs) l xss
  | _, _, _, .nil => .nil
  | _, _, hl, .cons ⟨vs, k1, k2, k3⟩ r => .cons ⟨vs, hl _ (List.mem_cons_self ..) _ k1, k2, k3.mono f⟩ (ll_go f (fun q hq => hl q (List.mem_cons_of_mem _ hq)) r)
/-- a list of lists of ours: l tells where these stand -/
def pkLL {K : Frag} {α : Type} (e : Enc K α) : PkE K (List (List α)) := ⟨fun F H l p xss => H p = some (.lst (l.map V.ref)) ∧ l.length ≤ sizeLine ∧ Paired (fun q xs => ∃ vs, H q = some (.lst vs) ∧ vs.length ≤ sizeLine ∧ Reps e F vs xs) l xss, fun f hl hp ⟨h1, h2, h3⟩ => ⟨hp _ h1, h2, ll_go f hl h3⟩, fun h z => by rw [h.1] at z; cases z⟩
inductive Ob (K : Frag) : Type 1 where
  | dead
  | lst {α : Type} (t : Option Addr) (e : Enc K α) (xs : List α)
  | gen {σ : Type} (t : Option Addr) (e : OEnc K σ) (s : σ)
  | pk {σ : Type} (t : Option Addr) (e : PkE K σ) (s : σ)
@[reducible] def Ob.lls {K : Frag} {α : Type} (t : Option Addr) (e : Enc K α) (xss : List (List α)) : Ob K := .pk t (pkLL e) xss
structure Spec (K : Frag) : Type 1 where
  sl : List (Sl K)
  ob : List (Ob K)
/-- what is fixed in a def's run: the data handed in, the heap that stays, what is wanted of an error -/
structure Fz where
  F0 : Hp
  G : Hp
  Er : Str → Prop
section
variable {K : Frag}
def slOk (G F : Hp) (ad : List Addr) : Sl K → Option V → Prop
  | .any, _ => True
  | .val e a, o => ∃ v, o = some v ∧ e.rep F v a
  | .bor e xs, o => ∃ p vs, o = some (.ref p) ∧ SqL K G p vs ∧ vs.length ≤ sizeLine ∧ Reps e F vs xs
  | .own k, o => ∃ p, ad[k]? = some p ∧ o = some (.ref p)
def obOk (G F H : Hp) : Ob K → Addr → Prop
  | .dead, _ => True
  | .lst t e xs, p => ∃ vs, H p = some (.lst vs) ∧ vs.length ≤ sizeLine ∧ Reps e F vs xs ∧ F p = none ∧ G p = none ∧ ∀ q, t = some q → p = q
  | .gen t e s, p => ∃ o, H p = some o ∧ e.rep F o s ∧ F p = none ∧ G p = none ∧ ∀ q, t = some q → p = q
  | .pk _ _ _, _ => True
def pkOk (G F H : Hp) {σ : Type} (t : Option Addr) (e : PkE K σ) (l : List Addr) (s : σ) (p : Addr) : Prop :=
  e.rep F H l p s ∧ F p = none ∧ G p = none ∧ ∀ q, t = some q → p = q
structure LfW (G F H : Hp) (ad : List Addr) (ob : List (Ob K)) (L : Nat → List Addr) : Prop where
  di : ∀ k q, q ∈ L k → q ∉ ad ∧ F q = none ∧ G q = none ∧ H q ≠ none
  un : ∀ k q, q ∈ L k → ∀ k', q ∈ L k' → k' = k
  nd : ∀ k, (L k).Nodup
  ok : ∀ (k : Nat) (α : Type) (t : Option Addr) (e : PkE K α) (xss : α), ob[k]? = some (.pk t e xss) → ∃ p, ad[k]? = some p ∧ pkOk G F H t e (L k) xss p
def Lf (G F H : Hp) (ad : List Addr) (ob : List (Ob K)) : Prop := ∃ L, LfW G F H ad ob L
theorem pkOk.go {G F H F' H' : Hp} {σ : Type} {t : Option Addr} {e : PkE K σ} {l : List Addr} {s : σ} {p : Addr} (f : Same F F') (hl : ∀ q ∈ l, ∀ o, H q = some o → H' q = some o) (hp : ∀ o, H p = some o → H' p = some o) (hF : F' p = none) (h : pkOk G F H t e l s p) : pkOk G F' H' t e l s p :=
  ⟨e.go f hl hp h.1, hF, h.2.2.1, h.2.2.2⟩
/-- from (F, H) to (F', H'): only new things -/
structure Nx (F H F' H' : Hp) : Prop where
  ff : Same F F'
  hh : Same H H'
  fh : Same F' H'
  nw : ∀ a, F' a ≠ none → F a ≠ none ∨ H a = none
theorem Nx.trans {F H F1 H1 F2 H2 : Hp} (a : Nx F H F1 H1) (b : Nx F1 H1 F2 H2) : Nx F H F2 H2 := ⟨a.ff.trans b.ff, a.hh.trans b.hh, b.fh, fun x h => by
  rcases b.nw x h with h | h
  · exact a.nw x h
  · exact .inr (a.hh.free h)⟩
theorem Nx.non {F H F' H' : Hp} (n : Nx F H F' H') {p : Addr} (h1 : F p = none) (h2 : H p ≠ none) : F' p = none := by
  cases q : F' p with
  | none => rfl
  | some o =>
    rcases n.nw p (by rw [q]; exact fun z => nomatch z) with z | z
    · exact absurd h1 z
    · exact absurd z h2
structure SOk (Z : Fz) (F : Hp) (ad : List Addr) (sp : Spec K) (σ : Sg) (H : Hp) : Prop where
  f0 : Same Z.F0 F
  fh : Same F H
  gh : Same Z.G H
  fg : ∀ a, F a ≠ none → Z.F0 a ≠ none ∨ Z.G a = none
  nd : ad.Nodup
  st : ∀ p ∈ ad, H p ≠ none
  len : sp.sl.length = σ.length
  sl : ∀ (i : Nat) (s : Sl K), sp.sl[i]? = some s → ∃ o : Option V, (σ : List (Option V))[i]? = some o ∧ slOk Z.G F ad s o
  olen : sp.ob.length = ad.length
  ob : ∀ (k : Nat) (o : Ob K), sp.ob[k]? = some o → ∃ p : Addr, ad[k]? = some p ∧ obOk Z.G F H o p
  lf : Lf Z.G F H ad sp.ob
theorem slOk.mono {G F F' : Hp} {ad : List Addr} {s : Sl K} {o : Option V} (f : Same F F') (h : slOk G F ad s o) : slOk G F' ad s o := by
  cases s with
  | any => trivial
  | val e a => obtain ⟨v, h1, h2⟩ := h; exact ⟨v, h1, e.mono f h2⟩
  | bor e xs => obtain ⟨p, vs, h1, h2, hz, h3⟩ := h; exact ⟨p, vs, h1, h2, hz, h3.mono f⟩
  | own k => exact h
theorem obOk.nx {G F H F' H' : Hp} {o : Ob K} {p : Addr} (n : Nx F H F' H') (h : obOk G F H o p) : obOk G F' H' o p := by
  cases o with
  | dead => trivial
  | pk t e xss => trivial
  | gen t e s =>
    obtain ⟨o, h1, h2, h3, h4⟩ := h
    exact ⟨o, n.hh _ _ h1, e.mono n.ff h2, n.non h3 (by rw [h1]; exact fun z => nomatch z), h4⟩
  | lst t e xs =>
    obtain ⟨vs, h1, hz, h2, h3, h4⟩ := h
    exact ⟨vs, n.hh _ _ h1, hz, h2.mono n.ff, n.non h3 (by rw [h1]; exact fun z => nomatch z), h4⟩
theorem LfW.nx {G F H F' H' : Hp} {ad : List Addr} {ob : List (Ob K)} {L : Nat → List Addr} (n : Nx F H F' H') (h : LfW G F H ad ob L) : LfW G F' H' ad ob L := by
  refine ⟨fun k q hq => ?_, h.un, h.nd, fun k α t e xss ho => ?_⟩
  · obtain ⟨a, b, c, d⟩ := h.di k q hq
    exact ⟨a, n.non b d, c, fun z => d (n.hh.free z)⟩
  · obtain ⟨p, hp, q⟩ := h.ok k α t e xss ho
    exact ⟨p, hp, q.go n.ff (fun q _ => n.hh q) (n.hh p) (n.non q.2.1 (e.st q.1))⟩
theorem Lf.nil {G F H : Hp} {ad : List Addr} {ob : List (Ob K)} (ho : ∀ (k : Nat) (α : Type) (t : Option Addr) (e : PkE K α) (xss : α), ob[k]? ≠ some (.pk t e xss)) : Lf G F H ad ob :=
  ⟨fun _ => [], fun _ _ h => (nomatch h), fun _ _ h => (nomatch h), fun _ => List.nodup_nil, fun k α t e xss h => absurd h (ho k α t e xss)⟩
theorem Lf.nx {G F H F' H' : Hp} {ad : List Addr} {ob : List (Ob K)} (n : Nx F H F' H') (h : Lf G F H ad ob) : Lf G F' H' ad ob := let ⟨L, h⟩ := h
  ⟨L, h.nx n⟩
theorem Lf.push {G F H F' H' : Hp} {ad : List Addr} {ob : List (Ob K)} {q : Addr} {o : Ob K} (n : Nx F H F' H') (hq : H q = none) (hl : ob.length = ad.length) (ho : ∀ (α : Type) (t : Option Addr) (e : PkE K α) (xss : α), o ≠ .pk t e xss) (h : Lf G F H ad ob) : Lf G F' H' (ad ++ [q]) (ob ++ [o]) := by
  obtain ⟨L, h⟩ := h
  have h' := h.nx n
  refine ⟨L, fun k x hx => ?_, h.un, h.nd, fun k α t e xss hk => ?_⟩
  · obtain ⟨a, b, c, d⟩ := h'.di k x hx
    refine ⟨fun z => ?_, b, c, d⟩
    rcases List.mem_append.mp z with z | z
    · exact a z
    · rw [List.mem_singleton] at z
      subst z
      exact (h.di k x hx).2.2.2 hq
  · by_cases hlt : k < ob.length
    · rw [List.getElem?_append_left hlt] at hk
      obtain ⟨p, hp, r⟩ := h'.ok k α t e xss hk
      exact ⟨p, by rw [List.getElem?_append_left (by omega)]; exact hp, r⟩
    · have hl2 := (List.getElem?_eq_some_iff.mp hk).1
      rw [List.length_append, List.length_singleton] at hl2
      have e2 : k = ob.length := by omega
      subst e2
      rw [List.getElem?_append_right (Nat.le_refl _), Nat.sub_self] at hk
      exact absurd (Option.some.inj hk) (ho α t e xss)
/-- a list of ours (no list of lists) is changed, or forgotten -/
theorem Lf.set {G F H F' H' : Hp} {ad : List Addr} {ob : List (Ob K)} {q : Addr} {o : Ob K} {i : Nat} (hi : ad[i]? = some q) (nd : ad.Nodup) (ff : Same F F') (fn : ∀ a, a ≠ q → F a = none → F' a = none) (hh : ∀ a, a ≠ q → H' a = H a) (ho : ∀ (α : Type) (t : Option Addr) (e : PkE K α) (xss : α), o ≠ .pk t e xss) (h : Lf G F H ad ob) : Lf G F' H' ad (ob.set i o) := by
  obtain ⟨L, h⟩ := h
  have nq : ∀ k x, x ∈ L k → x ≠ q := fun k x hx e => (h.di k x hx).1 (by rw [e]; exact List.mem_of_getElem? hi)
  refine ⟨L, fun k x hx => ?_, h.un, h.nd, fun k α t e xss hk => ?_⟩
  · obtain ⟨a, b, c, d⟩ := h.di k x hx
    exact ⟨a, fn x (nq k x hx) b, c, by rw [hh x (nq k x hx)]; exact d⟩
  · by_cases ek : k = i
    · subst ek
      by_cases hl : k < ob.length
      · rw [List.getElem?_set_self hl] at hk
        exact absurd (Option.some.inj hk) (ho α t e xss)
      · rw [List.getElem?_eq_none (by rw [List.length_set]; omega)] at hk
        cases hk
    · rw [List.getElem?_set_ne (Ne.symm ek)] at hk
      obtain ⟨p, hp, r⟩ := h.ok k α t e xss hk
      have np : p ≠ q := fun z => by
        subst z
        have l1 := (List.getElem?_eq_some_iff.mp hp).1
        have l2 := (List.getElem?_eq_some_iff.mp hi).1
        rw [List.getElem?_eq_getElem l1] at hp
        rw [List.getElem?_eq_getElem l2] at hi
        exact ek ((List.getElem_inj nd).mp ((Option.some.inj hp).trans (Option.some.inj hi).symm))
      exact ⟨p, hp, r.go ff (fun x hx o z => by rw [hh x (nq k x hx)]; exact z) (fun o z => by rw [hh p np]; exact z) (fn p np r.2.1)⟩
variable {Z : Fz} {F H F' H' : Hp} {ad : List Addr} {sp : Spec K} {σ : Sg}
theorem SOk.refl (S : SOk Z F ad sp σ H) : Nx F H F H := ⟨Same.refl _, Same.refl _, S.fh, fun _ h => .inl h⟩
theorem SOk.nx (S : SOk Z F ad sp σ H) (n : Nx F H F' H') : SOk Z F' ad sp σ H' where
  f0 := S.f0.trans n.ff
  fh := n.fh
  gh := S.gh.trans n.hh
  fg := fun a h => by
    rcases n.nw a h with h | h
    · exact S.fg a h
    · exact .inr (S.gh.free h)
  nd := S.nd
  st := fun p hp z => S.st p hp (n.hh.free z)
  len := S.len
  sl := fun i s h => by
    obtain ⟨o, h1, h2⟩ := S.sl i s h
    exact ⟨o, h1, h2.mono n.ff⟩
  olen := S.olen
  ob := fun k o h => by
    obtain ⟨p, h1, h2⟩ := S.ob k o h
    exact ⟨p, h1, h2.nx n⟩
  lf := S.lf.nx n
/-- some assertion of the frame -/
def ASt (Z : Fz) (sp : Spec K) (σ : Sg) (H : Hp) : Prop := ∃ F ad, SOk Z F ad sp σ H
end

/-! ### what an expression gives -/
def EJ (X : Cx) (Z : Fz) (sp : Spec X.K) (e : Expr) {α : Type} (m : Res α) (en : Enc X.K α) : Prop :=
  ∀ (F : Hp) (ad : List Addr) (σ : Sg) (H : Hp) (Q : VK), SOk Z F ad sp σ H → mwp m (fun a => ∀ F' H' v, Nx F H F' H' → en.rep F' v a → Q v H') Z.Er → wE X e σ H Q
/-- a list that may be read -/
def LJ (X : Cx) (Z : Fz) (sp : Spec X.K) (e : Expr) {α : Type} (m : Res (List α)) (en : Enc X.K α) : Prop :=
  ∀ (F : Hp) (ad : List Addr) (σ : Sg) (H : Hp) (Q : VK), SOk Z F ad sp σ H → mwp m (fun xs => ∀ F' H' p vs, Nx F H F' H' → SqL X.K H' p vs → vs.length ≤ sizeLine → Reps en F' vs xs → Q (.ref p) H') Z.Er → wE X e σ H Q
/-- a new list -/
def FJ (X : Cx) (Z : Fz) (sp : Spec X.K) (e : Expr) {α : Type} (m : Res (List α)) (en : Enc X.K α) : Prop :=
  ∀ (F : Hp) (ad : List Addr) (σ : Sg) (H : Hp) (Q : VK), SOk Z F ad sp σ H → mwp m (fun xs => ∀ F' H' p vs, Nx F H F' H' → H p = none → F' p = none → H' p = some (.lst vs) → vs.length ≤ sizeLine → Reps en F' vs xs → Q (.ref p) H') Z.Er → wE X e σ H Q
/-- a test -/
def TJ (X : Cx) (Z : Fz) (sp : Spec X.K) (e : Expr) (m : Res Bool) : Prop :=
  ∀ (F : Hp) (ad : List Addr) (σ : Sg) (H : Hp) (Q : Bool → Hp → Prop), SOk Z F ad sp σ H → mwp m (fun b => ∀ F' H', Nx F H F' H' → Q b H') Z.Er → wT X e σ H Q
end Wk

set_option Elab.async false
set_option linter.all false
set_option maxRecDepth 100000
set_option maxHeartbeats 4000000
namespace Wk
open PySem PySem.Spec PyProof.Rows L2

/-! ### more judgements -/
def WJ (X : Cx) (Z : Fz) (sp : Spec X.K) (e : Expr) (m : Res Bool) : Prop :=
  ∀ (F : Hp) (ad : List Addr) (σ : Sg) (H : Hp) (Q : Bool → Hp → Prop), SOk Z F ad sp σ H → mwp m (fun b => ∀ F' H', Nx F H F' H' → Q b H') Z.Er → wW X e σ H Q
/-- items of one type in a row -/
def IJ (X : Cx) (Z : Fz) (sp : Spec X.K) (es : List Expr) {α : Type} (m : Res (List α)) (en : Enc X.K α) : Prop :=
  ∀ (F : Hp) (ad : List Addr) (σ : Sg) (H : Hp) (Q : List V → Hp → Prop), SOk Z F ad sp σ H → mwp m (fun xs => ∀ F' H' vs, Nx F H F' H' → Reps en F' vs xs → vs.length = es.length → Q vs H') Z.Er → wA X es σ H Q
/-- values in a row, typed one by one -/
def VJ (X : Cx) (Z : Fz) (sp : Spec X.K) (es : List Expr) {γ : Type} (m : Res γ) (r : VsE X.K γ) : Prop :=
  ∀ (F : Hp) (ad : List Addr) (σ : Sg) (H : Hp) (Q : List V → Hp → Prop), SOk Z F ad sp σ H → mwp m (fun g => ∀ F' H' vs, Nx F H F' H' → r.rep F' vs g → vs.length = es.length → Q vs H') Z.Er → wA X es σ H Q
/-- a slice's part -/
def OJ (X : Cx) (Z : Fz) (sp : Spec X.K) (e : Option Expr) (m : Res (Option Int)) : Prop :=
  ∃ t : TO, PO X e t ∧ ∀ (F : Hp) (ad : List Addr) (σ : Sg) (H : Hp) (Q : Option Int → Hp → Prop), SOk Z F ad sp σ H → mwp m (fun o => ∀ F' H', Nx F H F' H' → Q o H') Z.Er → t σ H Q

section
variable {X : Cx} {Z : Fz} {sp : Spec X.K} {a b c e : Expr} {es : List Expr} {pos p j' : Pos} {α β γ : Type}
/-! ### names, constants -/
theorem ej_var {i : Nat} {x : Str} {en : Enc X.K α} {v : α} (hs : sp.sl[i]? = some (.val en v) := by rfl) (hN : X.N[i]? = some x := by rfl)
    (hv : Vis X.env.scope x := by first | exact Or.inl rfl | exact Or.inr (Or.inl rfl) | exact Or.inr (Or.inr rfl)) (hd : (x == ("__debug__" : Str)) = false := by decide) (hcd : (x == ("__classdict__" : Str)) = false := by decide) :
    EJ X Z sp (.Name x pos) (.ok v) en := fun F ad σ H Q S h => by
  refine ofE (pe_var (i := i) hN hv hd hcd) ?_
  obtain ⟨o, h1, u, h2, h3⟩ := S.sl i _ hs
  exact ⟨u, by rw [h1, h2], h F H u S.refl h3⟩
theorem lj_bor {i : Nat} {x : Str} {en : Enc X.K α} {xs : List α} (hs : sp.sl[i]? = some (.bor en xs) := by rfl) (hN : X.N[i]? = some x := by rfl)
    (hv : Vis X.env.scope x := by first | exact Or.inl rfl | exact Or.inr (Or.inl rfl) | exact Or.inr (Or.inr rfl)) (hd : (x == ("__debug__" : Str)) = false := by decide) (hcd : (x == ("__classdict__" : Str)) = false := by decide) :
    LJ X Z sp (.Name x pos) (.ok xs) en := fun F ad σ H Q S h => by
  refine ofE (pe_var (i := i) hN hv hd hcd) ?_
  obtain ⟨o, h1, p, vs, h2, h3, hz, h4⟩ := S.sl i _ hs
  exact ⟨.ref p, by rw [h1, h2], h F H p vs S.refl (sqL_mono S.gh h3) hz h4⟩
theorem lj_own {i k : Nat} {x : Str} {en : Enc X.K α} {xs : List α} (hs : sp.sl[i]? = some (.own k) := by rfl) {t : Option Addr} (ho : sp.ob[k]? = some (.lst t en xs) := by rfl) (hN : X.N[i]? = some x := by rfl)
    (hv : Vis X.env.scope x := by first | exact Or.inl rfl | exact Or.inr (Or.inl rfl) | exact Or.inr (Or.inr rfl)) (hd : (x == ("__debug__" : Str)) = false := by decide) (hcd : (x == ("__classdict__" : Str)) = false := by decide) :
    LJ X Z sp (.Name x pos) (.ok xs) en := fun F ad σ H Q S h => by
  refine ofE (pe_var (i := i) hN hv hd hcd) ?_
  obtain ⟨o, h1, p, h2, h3⟩ := S.sl i _ hs
  obtain ⟨p', h4, vs, h5, hz, h6, h7, h8⟩ := S.ob k _ ho
  rw [h2] at h4
  have e : p = p' := Option.some.inj h4
  subst e
  exact ⟨.ref p, by rw [h1, h3], h F H p vs S.refl (SqL.of h5) hz h6⟩
theorem ej_int {i : Int} {j : Nat} : EJ X Z sp (.Constant (.int i) j pos) (.ok i) eI := fun F ad σ H Q S h => ofE pe_int (h F H _ S.refl rfl)
theorem ej_bl {i : Bool} {j : Nat} : EJ X Z sp (.Constant (.bool i) j pos) (.ok i) eB := fun F ad σ H Q S h => ofE pe_bl (h F H _ S.refl rfl)
theorem ej_str {i : Str} {j : Nat} : EJ X Z sp (.Constant (.str i) j pos) (.ok i) eS := fun F ad σ H Q S h => ofE pe_str (h F H _ S.refl rfl)
theorem ej_non {en : Enc X.K α} {j : Nat} : EJ X Z sp (.Constant .none j pos) (.ok none) (eO en) := fun F ad σ H Q S h => ofE pe_non (h F H _ S.refl rfl)
theorem ej_unit {j : Nat} : EJ X Z sp (.Constant .none j pos) (.ok ()) eU := fun F ad σ H Q S h => ofE pe_non (h F H _ S.refl rfl)
theorem ej_gint {x : Str} {i : Int} {t : Tok} (hm : X.mg x = some (.int i t)) (hg : Gl X x := by rfl) (hd : (x == ("__debug__" : Str)) = false := by decide) : EJ X Z sp (.Name x pos) (.ok i) eI := fun F ad σ H Q S h =>
  ofE (pe_glob (v := .int i) hg hm ⟨t, rfl⟩ hd) (h F H _ S.refl rfl)
theorem ej_gstr {x z : Str} {t : Tok} (hm : X.mg x = some (.str z t)) (hg : Gl X x := by rfl) (hd : (x == ("__debug__" : Str)) = false := by decide) : EJ X Z sp (.Name x pos) (.ok z) eS := fun F ad σ H Q S h =>
  ofE (pe_glob (v := .str z) hg hm ⟨t, rfl⟩ hd) (h F H _ S.refl rfl)
/-! ### turning -/
theorem lj_ej {en : Enc X.K α} {m : Res (List α)} (h : EJ X Z sp e m (eL en)) : LJ X Z sp e m en := fun F ad σ H Q S hm => by
  refine h F ad σ H Q S (hm.imp fun xs q F' H' v n r => ?_)
  obtain ⟨p, vs, rfl, h2, hz, h3⟩ := r
  exact q F' H' p vs n (SqL.of (n.fh _ _ h2)) hz h3
theorem lj_fj {en : Enc X.K α} {m : Res (List α)} (h : FJ X Z sp e m en) : LJ X Z sp e m en := fun F ad σ H Q S hm =>
  h F ad σ H Q S (hm.imp fun xs q F' H' p vs n h1 h2 h3 hz h4 => q F' H' p vs n (SqL.of h3) hz h4)
theorem same_upd {F : Hp} {p : Addr} {o : HO} (h : F p = none) : Same F (upd F p o) := fun b x e => by
  rw [upd_ne (ne_of_none e h)]
  exact e
/-- a new object is made part of what stays -/
theorem Nx.fix {F H F' H' : Hp} {p : Addr} {o : HO} (n : Nx F H F' H') (h1 : H p = none) (h2 : F' p = none) (h3 : H' p = some o) : Nx F H (upd F' p o) H' := ⟨n.ff.trans (same_upd h2), n.hh, fun b x q => by
  by_cases hb : b = p
  · subst hb; rw [upd_same] at q; rw [h3]; exact q
  · rw [upd_ne hb] at q; exact n.fh b x q, fun a q => by
  by_cases ha : a = p
  · subst ha; exact .inr h1
  · rw [upd_ne ha] at q; exact n.nw a q⟩
theorem Nx.new {F H F' H' : Hp} {p : Addr} {o : HO} (n : Nx F H F' H') (h : H' p = none) : Nx F H F' (upd H' p o) := ⟨n.ff, n.hh.trans (same_upd h), fun b x q => by
  have hb : b ≠ p := fun z => by subst z; rw [n.fh b x q] at h; cases h
  rw [upd_ne hb]; exact n.fh b x q, n.nw⟩
theorem Nx.free {F H F' H' : Hp} {p : Addr} (n : Nx F H F' H') (h : H' p = none) : H p = none ∧ F' p = none := ⟨n.hh.free h, n.fh.free h⟩
theorem ej_fj {en : Enc X.K α} {m : Res (List α)} (h : FJ X Z sp e m en) : EJ X Z sp e m (eL en) := fun F ad σ H Q S hm =>
  h F ad σ H Q S (hm.imp fun xs q F' H' p vs n h1 h2 h3 hz h4 => q _ H' (.ref p) (n.fix h1 h2 h3) ⟨p, vs, rfl, upd_same, hz, h4.mono (same_upd h2)⟩)
theorem ej_some {en : Enc X.K α} {m : Res α} (h : EJ X Z sp e m en) : EJ X Z sp e (m.bi fun a => .ok (some a)) (eO en) := fun F ad σ H Q S hm =>
  h F ad σ H Q S (hm.bi.imp fun _ q => q)
theorem ej_some_p {en : Enc X.K α} {v : α} (h : EJ X Z sp e (.ok v) en) : EJ X Z sp e (.ok (some v)) (eO en) := ej_some h
/-- what is there -/
def unO (o : Option α) : Res α := match o with
  | some a => .ok a
  | none => .bad
theorem ej_un {en : Enc X.K α} {m : Res (Option α)} (h : EJ X Z sp e m (eO en)) : EJ X Z sp e (m.bi unO) en := fun F ad σ H Q S hm =>
  h F ad σ H Q S (hm.bi.imp fun o q F' H' v n r => by
    cases o with
    | none => exact q.elim
    | some a => exact q F' H' v n r)
theorem ej_un_p {en : Enc X.K α} {o : Option α} (h : EJ X Z sp e (.ok o) (eO en)) : EJ X Z sp e (unO o) en := ej_un h

/-! ### arithmetic -/
theorem ej_rI {op : Operator} {C : Int → Int → Prop} [∀ i j, Decidable (C i j)] {f : Int → Int → Int} {ma mb : Res Int} (ho : OpR X (binaryOp op) (rI C fun i j => .int (f i j)))
    (ha : EJ X Z sp a ma eI) (hb : EJ X Z sp b mb eI) : EJ X Z sp (.BinOp a op b pos) (ma.bi fun x => mb.bi fun y => gd (C x y) (f x y)) eI := fun F ad σ H Q S hm => by
  refine ofE (pe_op ho pe_w pe_w) ?_
  refine ha F ad σ H _ S (hm.bi.imp fun x q F1 H1 v n1 r1 => ?_)
  refine hb F1 ad σ H1 _ (S.nx n1) (q.bi.imp fun y q F2 H2 u n2 r2 => ?_)
  obtain ⟨c, q⟩ := q.gd
  exact ⟨x, y, r1, r2, c, q F2 H2 _ (n1.trans n2) rfl⟩
theorem ej_rI0 {op : Operator} {f : Int → Int → Int} {ma mb : Res Int} (ho : OpR X (binaryOp op) (rI0 fun i j => .int (f i j)))
    (ha : EJ X Z sp a ma eI) (hb : EJ X Z sp b mb eI) : EJ X Z sp (.BinOp a op b pos) (ma.bi fun x => mb.bi fun y => .ok (f x y)) eI := fun F ad σ H Q S hm => by
  refine ofE (pe_op ho pe_w pe_w) ?_
  refine ha F ad σ H _ S (hm.bi.imp fun x q F1 H1 v n1 r1 => ?_)
  refine hb F1 ad σ H1 _ (S.nx n1) (q.bi.imp fun y q F2 H2 u n2 r2 => ?_)
  exact ⟨x, y, r1, r2, q F2 H2 _ (n1.trans n2) rfl⟩
theorem ej_add {ma mb : Res Int} (ha : EJ X Z sp a ma eI) (hb : EJ X Z sp b mb eI) : EJ X Z sp (.BinOp a .Add b pos) (ma.bi fun x => mb.bi fun y => .ok (x + y)) eI := ej_rI0 op_add ha hb
theorem ej_sub {ma mb : Res Int} (ha : EJ X Z sp a ma eI) (hb : EJ X Z sp b mb eI) : EJ X Z sp (.BinOp a .Sub b pos) (ma.bi fun x => mb.bi fun y => .ok (x - y)) eI := ej_rI0 op_sub ha hb
theorem ej_add_p {x y : Int} (ha : EJ X Z sp a (.ok x) eI) (hb : EJ X Z sp b (.ok y) eI) : EJ X Z sp (.BinOp a .Add b pos) (.ok (x + y)) eI := ej_add ha hb
theorem ej_sub_p {x y : Int} (ha : EJ X Z sp a (.ok x) eI) (hb : EJ X Z sp b (.ok y) eI) : EJ X Z sp (.BinOp a .Sub b pos) (.ok (x - y)) eI := ej_sub ha hb
/-- a product that the machine lays -/
def mulOk (i j : Int) : Prop := i.natAbs.log2 + j.natAbs.log2 < 100000000
instance (i j : Int) : Decidable (mulOk i j) := inferInstanceAs (Decidable (_ < _))
theorem mulOk.ok {i j : Int} (h : mulOk i j) : IntMulOk i j := by
  have b : ∀ x : Int, Builtin.Int.intBits x ≤ x.natAbs.log2 + 1 := fun x => by
    unfold Builtin.Int.intBits
    split <;> omega
  have h1 := b i
  have h2 := b j
  have h3 : i.natAbs.log2 + j.natAbs.log2 < 100000000 := h
  have e : bitsLine = 134217728 := by decide
  unfold IntMulOk
  intro z
  rw [Bool.and_eq_true] at z
  have z2 := z.2
  unfold Builtin.Int.intTooBig at z2
  have z3 := of_decide_eq_true z2
  rw [e] at z3
  omega
theorem op_mulZ : OpR X (binaryOp .Mult) (rI mulOk fun i j => .int (i * j)) := opI fun _ _ _ _ _ _ _ hc q => mul_int q hc.ok
def mulM (x y : Int) : Res Int := gd (mulOk x y) (x * y)
theorem ej_mul {ma mb : Res Int} (ha : EJ X Z sp a ma eI) (hb : EJ X Z sp b mb eI) : EJ X Z sp (.BinOp a .Mult b pos) (ma.bi fun x => mb.bi fun y => mulM x y) eI := ej_rI op_mulZ ha hb
theorem ej_mul_p {x y : Int} (ha : EJ X Z sp a (.ok x) eI) (hb : EJ X Z sp b (.ok y) eI) : EJ X Z sp (.BinOp a .Mult b pos) (mulM x y) eI := ej_mul ha hb
instance (i j : Int) : Decidable (CDivW i j) := inferInstanceAs (Decidable (_ ∧ _))
def divM (x y : Int) : Res Int := gd (CDivW x y) (x / y)
theorem ej_div {ma mb : Res Int} (ha : EJ X Z sp a ma eI) (hb : EJ X Z sp b mb eI) : EJ X Z sp (.BinOp a .FloorDiv b pos) (ma.bi fun x => mb.bi fun y => divM x y) eI := ej_rI op_fdivW ha hb
theorem ej_div_l {ma : Res Int} {y : Int} (ha : EJ X Z sp a ma eI) (hb : EJ X Z sp b (.ok y) eI) (c : CDivW 0 y := by decide) : EJ X Z sp (.BinOp a .FloorDiv b pos) (ma.bi fun x => .ok (x / y)) eI := fun F ad σ H Q S hm =>
  ej_div ha hb F ad σ H Q S (mwp_bi.mpr (hm.bi.imp fun x q => by
    show mwp (gd (CDivW x y) (x / y)) _ _
    rw [gd_pos (show CDivW x y from c)]
    exact q))
theorem ej_div_lp {x y : Int} (ha : EJ X Z sp a (.ok x) eI) (hb : EJ X Z sp b (.ok y) eI) (c : CDivW 0 y := by decide) : EJ X Z sp (.BinOp a .FloorDiv b pos) (.ok (x / y)) eI := ej_div_l ha hb c
def modM (x y : Int) : Res Int := gd (0 < y) (x % y)
theorem ej_mod {ma mb : Res Int} (ha : EJ X Z sp a ma eI) (hb : EJ X Z sp b mb eI) : EJ X Z sp (.BinOp a .Mod b pos) (ma.bi fun x => mb.bi fun y => modM x y) eI := ej_rI (C := fun _ j => 0 < j) op_mod ha hb
theorem ej_mod_l {ma : Res Int} {y : Int} (ha : EJ X Z sp a ma eI) (hb : EJ X Z sp b (.ok y) eI) (c : 0 < y := by decide) : EJ X Z sp (.BinOp a .Mod b pos) (ma.bi fun x => .ok (x % y)) eI := fun F ad σ H Q S hm =>
  ej_mod ha hb F ad σ H Q S (mwp_bi.mpr (hm.bi.imp fun x q => by
    show mwp (gd (0 < y) (x % y)) _ _
    rw [gd_pos c]
    exact q))
theorem ej_mod_lp {x y : Int} (ha : EJ X Z sp a (.ok x) eI) (hb : EJ X Z sp b (.ok y) eI) (c : 0 < y := by decide) : EJ X Z sp (.BinOp a .Mod b pos) (.ok (x % y)) eI := ej_mod_l ha hb c
/-- a power by a written number -/
def powM (x : Int) (n : Nat) : Res Int := gd (x.natAbs < 2 ^ 64) (x ^ n)
theorem ej_pow {ma : Res Int} (n : Nat) {j : Nat} (ha : EJ X Z sp a ma eI) (hn : n ≤ 1000000 := by decide) : EJ X Z sp (.BinOp a .Pow (.Constant (.int (n : Int)) j p) pos) (ma.bi fun x => powM x n) eI := fun F ad σ H Q S hm => by
  refine ofE (pe_op op_pow pe_w pe_int) ?_
  refine ha F ad σ H _ S (hm.bi.imp fun x q F1 H1 v n1 r1 => ?_)
  obtain ⟨c, q⟩ := q.gd
  exact ⟨x, n, r1, rfl, ⟨by omega, by omega, c⟩, by
    show Q (V.int (x ^ ((n : Int)).toNat)) H1
    rw [Int.toNat_natCast]
    exact q F1 H1 _ n1 rfl⟩
theorem ej_pow_l {x : Int} (n : Nat) {j : Nat} (ha : EJ X Z sp a (.ok x) eI) (hn : n ≤ 1000000 := by decide) (hx : x.natAbs < 2 ^ 64 := by decide) : EJ X Z sp (.BinOp a .Pow (.Constant (.int (n : Int)) j p) pos) (.ok (x ^ n)) eI := fun F ad σ H Q S hm =>
  ej_pow n ha hn F ad σ H Q S (by
    show mwp (gd _ _) _ _
    rw [gd_pos hx]
    exact hm)
theorem ej_neg {ma : Res Int} (ha : EJ X Z sp a ma eI) : EJ X Z sp (.UnaryOp .USub a pos) (ma.bi fun x => .ok (-x)) eI := fun F ad σ H Q S hm => by
  refine ofE (pe_un un_neg pe_w) ?_
  exact ha F ad σ H _ S (hm.bi.imp fun x q F1 H1 v n1 r1 => ⟨x, r1, q F1 H1 _ n1 rfl⟩)
theorem ej_neg_p {x : Int} (ha : EJ X Z sp a (.ok x) eI) : EJ X Z sp (.UnaryOp .USub a pos) (.ok (-x)) eI := ej_neg ha

/-! ### comparisons -/
/-- two values compared -/
def CJ (X : Cx) (Z : Fz) (sp : Spec X.K) (op : CmpOp) (a b : Expr) (m : Res Bool) : Prop :=
  ∃ r : R2, OpR X (compareOp op) r ∧ ∀ (F : Hp) (ad : List Addr) (σ : Sg) (H : Hp) (Q : VK), SOk Z F ad sp σ H → mwp m (fun c => ∀ F' H', Nx F H F' H' → Q (.bl c) H') Z.Er → wE X a σ H fun x H1 => wE X b σ H1 fun y H2 => r x y H2 Q
variable {op op' : CmpOp}
theorem ej_cmp {m : Res Bool} (h : CJ X Z sp op a b m) (hm : behindInMarks op b = false := by first | exact nomark _ | rfl) : EJ X Z sp (.Compare a [op] [b] pos) m eB := fun F ad σ H Q S hm' => by
  obtain ⟨r, ho, h⟩ := h
  exact ofE (pe_cmpR ho pe_w pe_w hm) (h F ad σ H Q S (hm'.imp fun c q F' H' n => q F' H' _ n rfl))
theorem tj_cmp {m : Res Bool} (h : CJ X Z sp op a b m) (hm : behindInMarks op b = false := by first | exact nomark _ | rfl) : TJ X Z sp (.Compare a [op] [b] pos) m := fun F ad σ H Q S hm' => by
  obtain ⟨r, ho, h⟩ := h
  exact ofT (pt_cmpR ho pe_w pe_w hm) (h F ad σ H _ S (hm'.imp fun c q F' H' n => ⟨c, rfl, q F' H' n⟩))
theorem cj_rI0 {f : Int → Int → Bool} {ma mb : Res Int} (ho : OpR X (compareOp op) (rI0 fun i j => .bl (f i j))) (ha : EJ X Z sp a ma eI) (hb : EJ X Z sp b mb eI) : CJ X Z sp op a b (ma.bi fun x => mb.bi fun y => .ok (f x y)) := ⟨_, ho, fun F ad σ H Q S hm => by
  refine ha F ad σ H _ S (hm.bi.imp fun x q F1 H1 v n1 r1 => ?_)
  refine hb F1 ad σ H1 _ (S.nx n1) (q.bi.imp fun y q F2 H2 u n2 r2 => ?_)
  exact ⟨x, y, r1, r2, q F2 H2 (n1.trans n2)⟩⟩
theorem cj_lt {ma mb : Res Int} (ha : EJ X Z sp a ma eI) (hb : EJ X Z sp b mb eI) : CJ X Z sp .Lt a b (ma.bi fun x => mb.bi fun y => .ok (decide (x < y))) := cj_rI0 op_lt ha hb
theorem cj_le {ma mb : Res Int} (ha : EJ X Z sp a ma eI) (hb : EJ X Z sp b mb eI) : CJ X Z sp .LtE a b (ma.bi fun x => mb.bi fun y => .ok (decide (x ≤ y))) := cj_rI0 op_le ha hb
theorem cj_gt {ma mb : Res Int} (ha : EJ X Z sp a ma eI) (hb : EJ X Z sp b mb eI) : CJ X Z sp .Gt a b (ma.bi fun x => mb.bi fun y => .ok (decide (y < x))) := cj_rI0 op_gt ha hb
theorem cj_ge {ma mb : Res Int} (ha : EJ X Z sp a ma eI) (hb : EJ X Z sp b mb eI) : CJ X Z sp .GtE a b (ma.bi fun x => mb.bi fun y => .ok (decide (y ≤ x))) := cj_rI0 op_ge ha hb
theorem cj_lt_p {x y : Int} (ha : EJ X Z sp a (.ok x) eI) (hb : EJ X Z sp b (.ok y) eI) : CJ X Z sp .Lt a b (.ok (decide (x < y))) := cj_lt ha hb
theorem cj_le_p {x y : Int} (ha : EJ X Z sp a (.ok x) eI) (hb : EJ X Z sp b (.ok y) eI) : CJ X Z sp .LtE a b (.ok (decide (x ≤ y))) := cj_le ha hb
theorem cj_gt_p {x y : Int} (ha : EJ X Z sp a (.ok x) eI) (hb : EJ X Z sp b (.ok y) eI) : CJ X Z sp .Gt a b (.ok (decide (y < x))) := cj_gt ha hb
theorem cj_ge_p {x y : Int} (ha : EJ X Z sp a (.ok x) eI) (hb : EJ X Z sp b (.ok y) eI) : CJ X Z sp .GtE a b (.ok (decide (y ≤ x))) := cj_ge ha hb
/-- ints, truths, texts, by themselves -/
structure ScE {K : Frag} {α : Type} [DecidableEq α] (e : Enc K α) : Prop where
  sc : ∀ F F' v w a b, e.rep F v a → e.rep F' w b → scal v w = true ∧ decide (v = w) = decide (a = b)
theorem scI {K : Frag} : ScE (eI : Enc K Int) := ⟨fun F F' v w a b h1 h2 => by
  have e1 : v = .int a := h1
  have e2 : w = .int b := h2
  subst e1 e2
  exact ⟨rfl, by simp⟩⟩
theorem scB {K : Frag} : ScE (eB : Enc K Bool) := ⟨fun F F' v w a b h1 h2 => by
  have e1 : v = .bl a := h1
  have e2 : w = .bl b := h2
  subst e1 e2
  exact ⟨rfl, by simp⟩⟩
theorem scS {K : Frag} : ScE (eS : Enc K Str) := ⟨fun F F' v w a b h1 h2 => by
  have e1 : v = .str a := h1
  have e2 : w = .str b := h2
  subst e1 e2
  exact ⟨rfl, by simp⟩⟩
theorem cj_eq [DecidableEq α] {en : Enc X.K α} (sc : ScE en) {ma mb : Res α} (ha : EJ X Z sp a ma en) (hb : EJ X Z sp b mb en) : CJ X Z sp .Eq a b (ma.bi fun x => mb.bi fun y => .ok (decide (x = y))) := ⟨_, op_eq, fun F ad σ H Q S hm => by
  refine ha F ad σ H _ S (hm.bi.imp fun x q F1 H1 v n1 r1 => ?_)
  refine hb F1 ad σ H1 _ (S.nx n1) (q.bi.imp fun y q F2 H2 u n2 r2 => ?_)
  obtain ⟨e1, e2⟩ := sc.sc F1 F2 v u x y r1 r2
  refine ⟨e1, ?_⟩
  rw [e2]
  exact q F2 H2 (n1.trans n2)⟩
theorem cj_ne [DecidableEq α] {en : Enc X.K α} (sc : ScE en) {ma mb : Res α} (ha : EJ X Z sp a ma en) (hb : EJ X Z sp b mb en) : CJ X Z sp .NotEq a b (ma.bi fun x => mb.bi fun y => .ok (!decide (x = y))) := ⟨_, op_ne, fun F ad σ H Q S hm => by
  refine ha F ad σ H _ S (hm.bi.imp fun x q F1 H1 v n1 r1 => ?_)
  refine hb F1 ad σ H1 _ (S.nx n1) (q.bi.imp fun y q F2 H2 u n2 r2 => ?_)
  obtain ⟨e1, e2⟩ := sc.sc F1 F2 v u x y r1 r2
  refine ⟨e1, ?_⟩
  rw [e2]
  exact q F2 H2 (n1.trans n2)⟩
theorem cj_eq_p [DecidableEq α] {en : Enc X.K α} (sc : ScE en) {x y : α} (ha : EJ X Z sp a (.ok x) en) (hb : EJ X Z sp b (.ok y) en) : CJ X Z sp .Eq a b (.ok (decide (x = y))) := cj_eq sc ha hb
theorem cj_ne_p [DecidableEq α] {en : Enc X.K α} (sc : ScE en) {x y : α} (ha : EJ X Z sp a (.ok x) en) (hb : EJ X Z sp b (.ok y) en) : CJ X Z sp .NotEq a b (.ok (!decide (x = y))) := cj_ne sc ha hb
/-- is None -/
def NoN {K : Frag} {α : Type} (e : Enc K α) : Prop := ∀ F v a, e.rep F v a → v ≠ .non
theorem nonI {K : Frag} : NoN (eI : Enc K Int) := fun F v a h z => by
  have e : v = .int a := h
  rw [e] at z; cases z
theorem nonB {K : Frag} : NoN (eB : Enc K Bool) := fun F v a h z => by
  have e : v = .bl a := h
  rw [e] at z; cases z
theorem nonS {K : Frag} : NoN (eS : Enc K Str) := fun F v a h z => by
  have e : v = .str a := h
  rw [e] at z; cases z
theorem nonL {K : Frag} {e : Enc K α} : NoN (eL e) := fun F v a h z => by
  obtain ⟨p, vs, e, _⟩ := h
  rw [e] at z; cases z
theorem nonT {K : Frag} {r : VsE K α} : NoN (eT r) := fun F v a h z => by
  obtain ⟨p, vs, e, _⟩ := h
  rw [e] at z; cases z
theorem dec_none {K : Frag} {en : Enc K α} (nn : NoN en) {F : Hp} {v : V} {o : Option α} (r : (eO en).rep F v o) : decide (v = .non) = o.isNone := by
  cases o with
  | none =>
    have e : v = .non := r
    subst e; rfl
  | some a => exact decide_eq_false (nn F v a r)
theorem cj_isN {en : Enc X.K α} (nn : NoN en) {m : Res (Option α)} {j : Nat} (ha : EJ X Z sp a m (eO en)) : CJ X Z sp .Is a (.Constant .none j p) (m.bi fun o => .ok o.isNone) := ⟨_, op_isN, fun F ad σ H Q S hm => by
  refine ha F ad σ H _ S (hm.bi.imp fun x q F1 H1 v n1 r1 => ?_)
  refine ofE pe_non ⟨rfl, ?_⟩
  rw [dec_none nn r1]
  exact q F1 H1 n1⟩
theorem cj_notN {en : Enc X.K α} (nn : NoN en) {m : Res (Option α)} {j : Nat} (ha : EJ X Z sp a m (eO en)) : CJ X Z sp .IsNot a (.Constant .none j p) (m.bi fun o => .ok !o.isNone) := ⟨_, op_notN, fun F ad σ H Q S hm => by
  refine ha F ad σ H _ S (hm.bi.imp fun x q F1 H1 v n1 r1 => ?_)
  refine ofE pe_non ⟨rfl, ?_⟩
  rw [dec_none nn r1]
  exact q F1 H1 n1⟩
theorem cj_isN_p {en : Enc X.K α} (nn : NoN en) {o : Option α} {j : Nat} (ha : EJ X Z sp a (.ok o) (eO en)) : CJ X Z sp .Is a (.Constant .none j p) (.ok o.isNone) := cj_isN nn ha
theorem cj_notN_p {en : Enc X.K α} (nn : NoN en) {o : Option α} {j : Nat} (ha : EJ X Z sp a (.ok o) (eO en)) : CJ X Z sp .IsNot a (.Constant .none j p) (.ok !o.isNone) := cj_notN nn ha
/-- a < b < c of ints -/
theorem tj_chain {f g : Int → Int → Bool} {ma mb mc : Res Int} (ho : OpR X (compareOp op) (rI0 fun i j => .bl (f i j))) (ho' : OpR X (compareOp op') (rI0 fun i j => .bl (g i j))) (ha : EJ X Z sp a ma eI) (hb : EJ X Z sp b mb eI) (hc : EJ X Z sp c mc eI)
    (hm' : lastMarks [op, op'] [b, c] = false := by rfl) : TJ X Z sp (.Compare a [op, op'] [b, c] pos) (ma.bi fun x => mb.bi fun y => if f x y then mc.bi fun z => .ok (g y z) else .ok false) := fun F ad σ H Q S hm => by
  refine ofT (pt_chain ho ho' pe_w pe_w pe_w hm') ?_
  refine ha F ad σ H _ S (hm.bi.imp fun x q F1 H1 v n1 r1 => ?_)
  refine hb F1 ad σ H1 _ (S.nx n1) (q.bi.imp fun y q F2 H2 u n2 r2 => ?_)
  refine ⟨x, y, r1, r2, f x y, rfl, ?_⟩
  cases e : f x y with
  | true =>
    rw [e] at q
    refine hc F2 ad σ H2 _ (S.nx (n1.trans n2)) (q.bi.imp fun z q F3 H3 t n3 r3 => ?_)
    exact ⟨y, z, r2, r3, _, rfl, q F3 H3 ((n1.trans n2).trans n3)⟩
  | false =>
    rw [e] at q
    exact ⟨_, rfl, q F2 H2 (n1.trans n2)⟩
theorem ej_chain {f g : Int → Int → Bool} {ma mb mc : Res Int} (ho : OpR X (compareOp op) (rI0 fun i j => .bl (f i j))) (ho' : OpR X (compareOp op') (rI0 fun i j => .bl (g i j))) (ha : EJ X Z sp a ma eI) (hb : EJ X Z sp b mb eI) (hc : EJ X Z sp c mc eI)
    (hm' : lastMarks [op, op'] [b, c] = false := by rfl) : EJ X Z sp (.Compare a [op, op'] [b, c] pos) (ma.bi fun x => mb.bi fun y => if f x y then mc.bi fun z => .ok (g y z) else .ok false) eB := fun F ad σ H Q S hm => by
  refine ofE (pe_chain ho ho' pe_w pe_w pe_w hm') ?_
  refine ha F ad σ H _ S (hm.bi.imp fun x q F1 H1 v n1 r1 => ?_)
  refine hb F1 ad σ H1 _ (S.nx n1) (q.bi.imp fun y q F2 H2 u n2 r2 => ?_)
  refine ⟨x, y, r1, r2, f x y, rfl, ?_⟩
  cases e : f x y with
  | true =>
    rw [e] at q
    refine hc F2 ad σ H2 _ (S.nx (n1.trans n2)) (q.bi.imp fun z q F3 H3 t n3 r3 => ?_)
    exact ⟨y, z, r2, r3, q F3 H3 _ ((n1.trans n2).trans n3) rfl⟩
  | false =>
    rw [e] at q
    exact q F2 H2 _ (n1.trans n2) rfl

/-! ### and, or, not -/
theorem tj_val {m : Res Bool} (h : EJ X Z sp e m eB) (he : ∀ whole, isTrue e X.env whole = (do let v ← whole; standAt e.pos; holding [v] (truthy v)) := by intro _; rfl) : TJ X Z sp e m := fun F ad σ H Q S hm =>
  ofT (pt_val pe_w he) (h F ad σ H _ S (hm.imp fun b q F' H' v n r => ⟨b, r, q F' H' n⟩))
theorem tj_not {m : Res Bool} (h : TJ X Z sp a m) : TJ X Z sp (.UnaryOp .Not a pos) (m.bi fun b => .ok !b) := fun F ad σ H Q S hm =>
  ofT (pt_not pt_w) (h F ad σ H _ S (hm.bi.imp fun b q F' H' n => q F' H' n))
theorem tj_not_p {x : Bool} (h : TJ X Z sp a (.ok x)) : TJ X Z sp (.UnaryOp .Not a pos) (.ok !x) := tj_not h
theorem ej_not {m : Res Bool} (h : EJ X Z sp a m eB) : EJ X Z sp (.UnaryOp .Not a pos) (m.bi fun b => .ok !b) eB := fun F ad σ H Q S hm =>
  ofE (pe_not pe_w) (h F ad σ H _ S (hm.bi.imp fun b q F' H' v n r => ⟨b, r, q F' H' _ n rfl⟩))
theorem ej_not_p {x : Bool} (h : EJ X Z sp a (.ok x) eB) : EJ X Z sp (.UnaryOp .Not a pos) (.ok !x) eB := ej_not h
theorem tj_wj {m : Res Bool} (h : WJ X Z sp e m) : TJ X Z sp e m := fun F ad σ H Q S hm => ofT (PW.pt pw_w) (h F ad σ H Q S hm)
theorem wj_and1 {m : Res Bool} (h : TJ X Z sp a m) : WJ X Z sp (.BoolOp .And [a] pos) m := fun F ad σ H Q S hm => ofW (pw_and1 pt_w) (h F ad σ H Q S hm)
theorem wj_or1 {m : Res Bool} (h : TJ X Z sp a m) : WJ X Z sp (.BoolOp .Or [a] pos) m := fun F ad σ H Q S hm => ofW (pw_or1 pt_w) (h F ad σ H Q S hm)
theorem wj_and {ma mb : Res Bool} (h : TJ X Z sp a ma) (h2 : WJ X Z sp (.BoolOp .And (b :: es) pos) mb) : WJ X Z sp (.BoolOp .And (a :: b :: es) pos) (ma.bi fun c => if c then mb else .ok false) := fun F ad σ H Q S hm => by
  refine ofW (pw_and pt_w pw_w) (h F ad σ H _ S (hm.bi.imp fun c q F' H' n => ?_))
  cases c with
  | true => exact h2 F' ad σ H' Q (S.nx n) (q.imp fun d q F2 H2 n2 => q F2 H2 (n.trans n2))
  | false => exact q F' H' n
theorem wj_or {ma mb : Res Bool} (h : TJ X Z sp a ma) (h2 : WJ X Z sp (.BoolOp .Or (b :: es) pos) mb) : WJ X Z sp (.BoolOp .Or (a :: b :: es) pos) (ma.bi fun c => if c then .ok true else mb) := fun F ad σ H Q S hm => by
  refine ofW (pw_or pt_w pw_w) (h F ad σ H _ S (hm.bi.imp fun c q F' H' n => ?_))
  cases c with
  | false => exact h2 F' ad σ H' Q (S.nx n) (q.imp fun d q F2 H2 n2 => q F2 H2 (n.trans n2))
  | true => exact q F' H' n
theorem wj_and_p {x y : Bool} (h : TJ X Z sp a (.ok x)) (h2 : WJ X Z sp (.BoolOp .And (b :: es) pos) (.ok y)) : WJ X Z sp (.BoolOp .And (a :: b :: es) pos) (.ok (x && y)) := fun F ad σ H Q S hm => wj_and h h2 F ad σ H Q S (by
  cases x <;> exact hm)
theorem wj_or_p {x y : Bool} (h : TJ X Z sp a (.ok x)) (h2 : WJ X Z sp (.BoolOp .Or (b :: es) pos) (.ok y)) : WJ X Z sp (.BoolOp .Or (a :: b :: es) pos) (.ok (x || y)) := fun F ad σ H Q S hm => wj_or h h2 F ad σ H Q S (by
  cases x <;> exact hm)
theorem ej_one {m : Res Bool} {bop : BoolOp} (h : EJ X Z sp a m eB) : EJ X Z sp (.BoolOp bop [a] pos) m eB := fun F ad σ H Q S hm => ofE (pe_one pe_w) (h F ad σ H Q S hm)
theorem ej_and {ma mb : Res Bool} (h : EJ X Z sp a ma eB) (h2 : EJ X Z sp (.BoolOp .And (b :: es) pos) mb eB) : EJ X Z sp (.BoolOp .And (a :: b :: es) pos) (ma.bi fun c => if c then mb else .ok false) eB := fun F ad σ H Q S hm => by
  refine ofE (pe_and pe_w pe_w) (h F ad σ H _ S (hm.bi.imp fun c q F' H' v n r => ⟨c, r, ?_⟩))
  cases c with
  | true => exact h2 F' ad σ H' Q (S.nx n) (q.imp fun d q F2 H2 v n2 r => q F2 H2 v (n.trans n2) r)
  | false => exact q F' H' _ n rfl
theorem ej_or {ma mb : Res Bool} (h : EJ X Z sp a ma eB) (h2 : EJ X Z sp (.BoolOp .Or (b :: es) pos) mb eB) : EJ X Z sp (.BoolOp .Or (a :: b :: es) pos) (ma.bi fun c => if c then .ok true else mb) eB := fun F ad σ H Q S hm => by
  refine ofE (pe_or pe_w pe_w) (h F ad σ H _ S (hm.bi.imp fun c q F' H' v n r => ⟨c, r, ?_⟩))
  cases c with
  | false => exact h2 F' ad σ H' Q (S.nx n) (q.imp fun d q F2 H2 v n2 r => q F2 H2 v (n.trans n2) r)
  | true => exact q F' H' _ n rfl
theorem ej_and_p {x y : Bool} (h : EJ X Z sp a (.ok x) eB) (h2 : EJ X Z sp (.BoolOp .And (b :: es) pos) (.ok y) eB) : EJ X Z sp (.BoolOp .And (a :: b :: es) pos) (.ok (x && y)) eB := fun F ad σ H Q S hm => ej_and h h2 F ad σ H Q S (by
  cases x <;> exact hm)
theorem ej_or_p {x y : Bool} (h : EJ X Z sp a (.ok x) eB) (h2 : EJ X Z sp (.BoolOp .Or (b :: es) pos) (.ok y) eB) : EJ X Z sp (.BoolOp .Or (a :: b :: es) pos) (.ok (x || y)) eB := fun F ad σ H Q S hm => ej_or h h2 F ad σ H Q S (by
  cases x <;> exact hm)
end
end Wk

set_option Elab.async false
set_option linter.all false
set_option maxRecDepth 100000
set_option maxHeartbeats 4000000
namespace Wk
open PySem PySem.Spec PyProof.Rows L2
/-! ### items -/
@[irreducible] def geti {α : Type} (xs : List α) (i : Int) : Res α := match atI xs i with
  | some a => .ok a
  | none => .bad
theorem mwp.geti {α : Type} {xs : List α} {i : Int} {Q : α → Prop} {E : Str → Prop} (h : mwp (geti xs i) Q E) : ∃ a, atI xs i = some a ∧ Q a := by
  unfold Wk.geti at h
  cases e : atI xs i with
  | none => rw [e] at h; exact h.elim
  | some a => rw [e] at h; exact ⟨a, rfl, h⟩
theorem Reps.atI {K : Frag} {α : Type} {e : Enc K α} {F : Hp} {vs : List V} {xs : List α} {i : Int} {x : α} (h : Reps e F vs xs) (hx : L2.atI xs i = some x) : ∃ v, L2.atI vs i = some v ∧ e.rep F v x := by
  unfold L2.atI at hx ⊢
  rw [h.length]
  cases q : ixN xs.length i with
  | none => rw [q] at hx; cases hx
  | some j =>
    rw [q] at hx
    exact h.get (show xs[j]? = some x from hx)
/-- an item is put -/
@[irreducible] def seti {α : Type} (xs : List α) (i : Int) (a : α) : Res (List α) := match ixN xs.length i with
  | some j => .ok (xs.set j a)
  | none => .bad
/-- a part of a list -/
def cutL {α : Type} (xs : List α) (lo hi : Option Int) : List α := (xs.drop (HT.sIx xs.length 0 lo)).take (HT.sIx xs.length xs.length hi - HT.sIx xs.length 0 lo)
section
variable {X : Cx} {Z : Fz} {sp : Spec X.K} {a b c e : Expr} {es : List Expr} {pos p p2 : Pos} {α β γ : Type}
theorem ej_ix {en : Enc X.K α} {ml : Res (List α)} {mi : Res Int} (hl : LJ X Z sp a ml en) (hi : EJ X Z sp b mi eI) (hs : PlainIx b := by intro _ _; rfl) : EJ X Z sp (.Subscript a b pos) (ml.bi fun xs => mi.bi fun i => geti xs i) en := fun F ad σ H Q S hm => by
  refine ofE (pe_ix ix_list pe_w pe_w hs) ?_
  refine hl F ad σ H _ S (hm.bi.imp fun xs q F1 H1 p vs n1 h1 hz1 r1 => ?_)
  refine hi F1 ad σ H1 _ (S.nx n1) (q.bi.imp fun i q F2 H2 u n2 r2 => ?_)
  obtain ⟨x, hx, q⟩ := q.geti
  obtain ⟨v, hv, rv⟩ := (r1.mono n2.ff).atI hx
  exact ⟨p, vs, i, v, rfl, r2, sqL_mono n2.hh h1, hv, q F2 H2 v (n1.trans n2) rv⟩
theorem ej_ix_p {en : Enc X.K α} {xs : List α} {i : Int} (hl : LJ X Z sp a (.ok xs) en) (hi : EJ X Z sp b (.ok i) eI) (hs : PlainIx b := by intro _ _; rfl) : EJ X Z sp (.Subscript a b pos) (geti xs i) en := ej_ix hl hi hs
/-- a tuple's place -/
theorem ej_tix {r : VsE X.K γ} {en : Enc X.K α} {f : γ → α} {ma : Res γ} (n : Nat) {j : Nat} (ha : EJ X Z sp a ma (eT r)) (hat : VAt r n en f) : EJ X Z sp (.Subscript a (.Constant (.int (n : Int)) j p) pos) (ma.bi fun g => .ok (f g)) en := fun F ad σ H Q S hm => by
  refine ofE (pe_ix ix_tup pe_w pe_int fun _ _ => rfl) ?_
  refine ha F ad σ H _ S (hm.bi.imp fun g q F1 H1 v n1 r1 => ?_)
  obtain ⟨p, vs, rfl, h1, h2⟩ := r1
  obtain ⟨v, hv, rv⟩ := hat F1 vs g h2
  exact ⟨p, vs, n, v, rfl, rfl, SqT.of (n1.fh _ _ h1), atI_nat hv, q F1 H1 v n1 rv⟩
theorem ej_tix_p {r : VsE X.K γ} {en : Enc X.K α} {f : γ → α} {g : γ} (n : Nat) {j : Nat} (ha : EJ X Z sp a (.ok g) (eT r)) (hat : VAt r n en f) : EJ X Z sp (.Subscript a (.Constant (.int (n : Int)) j p) pos) (.ok (f g)) en := ej_tix n ha hat
/-! ### calls of what is built in -/
def nst : Expr → Bool
  | .Starred _ _ => false
  | _ => true
theorem star_cons (h : nst e = true) {env : Env} : starEach (e :: es) env = (false, eval e env) :: starEach es env := by
  cases e <;> first
    | rfl
    | cases h
variable {fp : Pos} {x : Str} {id T : String} {r : List V → Hp → VK → Prop}
theorem callB1 (hc : CallR X (.builtin id) r) (hg : Gl X x) (hm : X.mg x = none) (hv : bootBuiltins x = some (.builtin id)) (hn : nst a = true) (hx : x ≠ "__name__" := by decide) (hdb : (x == ("__debug__" : Str)) = false := by decide) :
    PE X (.Call (.Name x fp) [a] [] pos) (tCB r (tCons (wE X a) tNil)) :=
  pe_callB hc hg hm hv (pa_cons pe_w pa_nil (star_cons hn)) hx hdb (star_cons hn) rfl
theorem callB2 (hc : CallR X (.builtin id) r) (hg : Gl X x) (hm : X.mg x = none) (hv : bootBuiltins x = some (.builtin id)) (hn : nst a = true) (hn2 : nst b = true) (hx : x ≠ "__name__" := by decide) (hdb : (x == ("__debug__" : Str)) = false := by decide) :
    PE X (.Call (.Name x fp) [a, b] [] pos) (tCB r (tCons (wE X a) (tCons (wE X b) tNil))) :=
  pe_callB hc hg hm hv (pa_cons pe_w (pa_cons pe_w pa_nil (star_cons hn2)) (star_cons hn)) hx hdb (star_cons hn) (by rw [star_cons hn2]; rfl)
theorem callT1 (hc : CallR X (.type T) r) (hg : Gl X x) (hm : X.mg x = none) (hv : bootBuiltins x = some (.type T)) (hn : nst a = true) (hx : x ≠ "__name__" := by decide) (hdb : (x == ("__debug__" : Str)) = false := by decide) :
    PE X (.Call (.Name x fp) [a] [] pos) (tCB r (tCons (wE X a) tNil)) :=
  pe_callTy hc hg hm hv (pa_cons pe_w pa_nil (star_cons hn)) hx hdb (star_cons hn) rfl
/-! ### len, min, max, sum, list -/
theorem ej_len {en : Enc X.K α} {m : Res (List α)} (hm : X.mg "len" = none) (h : LJ X Z sp a m en) (hg : Gl X "len" := by rfl) (hn : nst a = true := by rfl) : EJ X Z sp (.Call (.Name "len" fp) [a] [] pos) (m.bi fun xs => .ok (xs.length : Int)) eI := fun F ad σ H Q S hq => by
  refine ofE (callB1 call_len_seq hg hm boot_len hn) ?_
  refine h F ad σ H _ S (hq.bi.imp fun xs q F1 H1 p vs n1 h1 hz1 r1 => ?_)
  refine ⟨p, vs, rfl, .inl h1, ?_⟩
  rw [r1.length]
  exact q F1 H1 _ n1 rfl
theorem ej_len_p {en : Enc X.K α} {xs : List α} (hm : X.mg "len" = none) (h : LJ X Z sp a (.ok xs) en) (hg : Gl X "len" := by rfl) (hn : nst a = true := by rfl) : EJ X Z sp (.Call (.Name "len" fp) [a] [] pos) (.ok (xs.length : Int)) eI := ej_len hm h hg hn
def lenS (x : Str) : Res Int := gd (x.length ≤ sizeLine) (x.length : Int)
theorem ej_lens {m : Res Str} (hm : X.mg "len" = none) (h : EJ X Z sp a m eS) (hg : Gl X "len" := by rfl) (hn : nst a = true := by rfl) : EJ X Z sp (.Call (.Name "len" fp) [a] [] pos) (m.bi lenS) eI := fun F ad σ H Q S hq => by
  refine ofE (callB1 call_len_str hg hm boot_len hn) ?_
  refine h F ad σ H _ S (hq.bi.imp fun xs q F1 H1 v n1 r1 => ?_)
  obtain ⟨c, q⟩ := q.gd
  have r1 : v = .str xs := r1
  subst r1
  exact ⟨xs, rfl, c, q F1 H1 _ n1 rfl⟩
theorem ej_min2 {ma mb : Res Int} (hm : X.mg "min" = none) (ha : EJ X Z sp a ma eI) (hb : EJ X Z sp b mb eI) (hc : X.calm = true := by rfl) (hg : Gl X "min" := by rfl) (hn : nst a = true := by rfl) (hn2 : nst b = true := by rfl) : EJ X Z sp (.Call (.Name "min" fp) [a, b] [] pos) (ma.bi fun x => mb.bi fun y => .ok (min x y)) eI := fun F ad σ H Q S hq => by
  refine ofE (callB2 (call_min2 hc) hg hm boot_min hn hn2) ?_
  refine ha F ad σ H _ S (hq.bi.imp fun x q F1 H1 v n1 r1 => ?_)
  refine hb F1 ad σ H1 _ (S.nx n1) (q.bi.imp fun y q F2 H2 u n2 r2 => ?_)
  have r1 : v = .int x := r1
  have r2 : u = .int y := r2
  subst r1 r2
  refine ⟨x, y, rfl, ?_⟩
  have e : (if y < x then y else x) = min x y := by
    rw [Int.min_def]
    split <;> split <;> omega
  rw [e]
  exact q F2 H2 _ (n1.trans n2) rfl
theorem ej_max2 {ma mb : Res Int} (hm : X.mg "max" = none) (ha : EJ X Z sp a ma eI) (hb : EJ X Z sp b mb eI) (hc : X.calm = true := by rfl) (hg : Gl X "max" := by rfl) (hn : nst a = true := by rfl) (hn2 : nst b = true := by rfl) : EJ X Z sp (.Call (.Name "max" fp) [a, b] [] pos) (ma.bi fun x => mb.bi fun y => .ok (max x y)) eI := fun F ad σ H Q S hq => by
  refine ofE (callB2 (call_max2 hc) hg hm boot_max hn hn2) ?_
  refine ha F ad σ H _ S (hq.bi.imp fun x q F1 H1 v n1 r1 => ?_)
  refine hb F1 ad σ H1 _ (S.nx n1) (q.bi.imp fun y q F2 H2 u n2 r2 => ?_)
  have r1 : v = .int x := r1
  have r2 : u = .int y := r2
  subst r1 r2
  refine ⟨x, y, rfl, ?_⟩
  have e : (if y > x then y else x) = max x y := by
    rw [Int.max_def]
    split <;> split <;> omega
  rw [e]
  exact q F2 H2 _ (n1.trans n2) rfl
theorem ej_min2_p {x y : Int} (hm : X.mg "min" = none) (ha : EJ X Z sp a (.ok x) eI) (hb : EJ X Z sp b (.ok y) eI) (hc : X.calm = true := by rfl) (hg : Gl X "min" := by rfl) (hn : nst a = true := by rfl) (hn2 : nst b = true := by rfl) : EJ X Z sp (.Call (.Name "min" fp) [a, b] [] pos) (.ok (min x y)) eI := ej_min2 hm ha hb hc hg hn hn2
theorem ej_max2_p {x y : Int} (hm : X.mg "max" = none) (ha : EJ X Z sp a (.ok x) eI) (hb : EJ X Z sp b (.ok y) eI) (hc : X.calm = true := by rfl) (hg : Gl X "max" := by rfl) (hn : nst a = true := by rfl) (hn2 : nst b = true := by rfl) : EJ X Z sp (.Call (.Name "max" fp) [a, b] [] pos) (.ok (max x y)) eI := ej_max2 hm ha hb hc hg hn hn2
/-- the least of some, the greatest -/
def minL (xs : List Int) : Res Int := match xs with
  | [] => .bad
  | x :: r => .ok (r.foldl min x)
def maxL (xs : List Int) : Res Int := match xs with
  | [] => .bad
  | x :: r => .ok (r.foldl max x)
theorem foldl_min_le : ∀ (r : List Int) (x : Int), r.foldl min x ≤ x ∧ (∀ y ∈ r, r.foldl min x ≤ y) ∧ (r.foldl min x = x ∨ r.foldl min x ∈ r)
  | [], x => ⟨Int.le_refl _, (fun _ h => nomatch h), Or.inl rfl⟩
  | z :: r, x => by
    obtain ⟨h1, h2, h3⟩ := foldl_min_le r (min x z)
    rw [List.foldl_cons]
    have ex : min x z ≤ x := Int.min_le_left ..
    have ez : min x z ≤ z := Int.min_le_right ..
    refine ⟨by omega, fun y hy => ?_, ?_⟩
    · rcases List.mem_cons.mp hy with rfl | hy
      · omega
      · exact h2 y hy
    · rcases h3 with h3 | h3
      · rw [h3, Int.min_def]
        split
        · exact .inl rfl
        · exact .inr (List.mem_cons_self ..)
      · exact .inr (List.mem_cons_of_mem _ h3)
theorem foldl_max_le : ∀ (r : List Int) (x : Int), x ≤ r.foldl max x ∧ (∀ y ∈ r, y ≤ r.foldl max x) ∧ (r.foldl max x = x ∨ r.foldl max x ∈ r)
  | [], x => ⟨Int.le_refl _, (fun _ h => nomatch h), Or.inl rfl⟩
  | z :: r, x => by
    obtain ⟨h1, h2, h3⟩ := foldl_max_le r (max x z)
    rw [List.foldl_cons]
    have ex : x ≤ max x z := Int.le_max_left ..
    have ez : z ≤ max x z := Int.le_max_right ..
    refine ⟨by omega, fun y hy => ?_, ?_⟩
    · rcases List.mem_cons.mp hy with rfl | hy
      · omega
      · exact h2 y hy
    · rcases h3 with h3 | h3
      · rw [h3, Int.max_def]
        split
        · exact .inr (List.mem_cons_self ..)
        · exact .inl rfl
      · exact .inr (List.mem_cons_of_mem _ h3)
theorem ej_minL {m : Res (List Int)} (hm : X.mg "min" = none) (h : LJ X Z sp a m eI) (hc : X.calm = true := by rfl) (hg : Gl X "min" := by rfl) (hn : nst a = true := by rfl) : EJ X Z sp (.Call (.Name "min" fp) [a] [] pos) (m.bi minL) eI := fun F ad σ H Q S hq => by
  refine ofE (callB1 (cr_min hc) hg hm boot_min hn) ?_
  refine h F ad σ H _ S (hq.bi.imp fun xs q F1 H1 p vs n1 h1 hz1 r1 => ?_)
  have e := r1.int
  subst e
  cases xs with
  | nil => exact q.elim
  | cons x r =>
    refine ⟨p, x :: r, rfl, h1, by simp, fun m hm hle => ?_⟩
    obtain ⟨k1, k2, k3⟩ := foldl_min_le r x
    have e : m = r.foldl min x := by
      have g1 : m ≤ r.foldl min x := by
        rcases k3 with k3 | k3
        · rw [k3]; exact hle x (List.mem_cons_self ..)
        · exact hle _ (List.mem_cons_of_mem _ k3)
      have g2 : r.foldl min x ≤ m := by
        rcases List.mem_cons.mp hm with rfl | hm
        · exact k1
        · exact k2 _ hm
      omega
    rw [e]
    exact q F1 H1 _ n1 rfl
theorem ej_maxL {m : Res (List Int)} (hm : X.mg "max" = none) (h : LJ X Z sp a m eI) (hc : X.calm = true := by rfl) (hg : Gl X "max" := by rfl) (hn : nst a = true := by rfl) : EJ X Z sp (.Call (.Name "max" fp) [a] [] pos) (m.bi maxL) eI := fun F ad σ H Q S hq => by
  refine ofE (callB1 (cr_max hc) hg hm boot_max hn) ?_
  refine h F ad σ H _ S (hq.bi.imp fun xs q F1 H1 p vs n1 h1 hz1 r1 => ?_)
  have e := r1.int
  subst e
  cases xs with
  | nil => exact q.elim
  | cons x r =>
    refine ⟨p, x :: r, rfl, h1, by simp, fun m hm hle => ?_⟩
    obtain ⟨k1, k2, k3⟩ := foldl_max_le r x
    have e : m = r.foldl max x := by
      have g1 : r.foldl max x ≤ m := by
        rcases k3 with k3 | k3
        · rw [k3]; exact hle x (List.mem_cons_self ..)
        · exact hle _ (List.mem_cons_of_mem _ k3)
      have g2 : m ≤ r.foldl max x := by
        rcases List.mem_cons.mp hm with rfl | hm
        · exact k1
        · exact k2 _ hm
      omega
    rw [e]
    exact q F1 H1 _ n1 rfl
theorem ej_minL_p {xs : List Int} (hm : X.mg "min" = none) (h : LJ X Z sp a (.ok xs) eI) (hc : X.calm = true := by rfl) (hg : Gl X "min" := by rfl) (hn : nst a = true := by rfl) : EJ X Z sp (.Call (.Name "min" fp) [a] [] pos) (minL xs) eI := ej_minL hm h hc hg hn
theorem ej_maxL_p {xs : List Int} (hm : X.mg "max" = none) (h : LJ X Z sp a (.ok xs) eI) (hc : X.calm = true := by rfl) (hg : Gl X "max" := by rfl) (hn : nst a = true := by rfl) : EJ X Z sp (.Call (.Name "max" fp) [a] [] pos) (maxL xs) eI := ej_maxL hm h hc hg hn
theorem ej_sum {m : Res (List Int)} (hm : X.mg "sum" = none) (h : LJ X Z sp a m eI) (hc : X.calm = true := by rfl) (hg : Gl X "sum" := by rfl) (hn : nst a = true := by rfl) : EJ X Z sp (.Call (.Name "sum" fp) [a] [] pos) (m.bi fun xs => .ok xs.sum) eI := fun F ad σ H Q S hq => by
  refine ofE (callB1 (cr_sum hc) hg hm boot_sum hn) ?_
  refine h F ad σ H _ S (hq.bi.imp fun xs q F1 H1 p vs n1 h1 hz1 r1 => ?_)
  have e := r1.int
  subst e
  exact ⟨p, xs, rfl, h1, q F1 H1 _ n1 rfl⟩
theorem ej_sum_p {xs : List Int} (hm : X.mg "sum" = none) (h : LJ X Z sp a (.ok xs) eI) (hc : X.calm = true := by rfl) (hg : Gl X "sum" := by rfl) (hn : nst a = true := by rfl) : EJ X Z sp (.Call (.Name "sum" fp) [a] [] pos) (.ok xs.sum) eI := ej_sum hm h hc hg hn
theorem ej_intB {m : Res Bool} (hm : X.mg "int" = none) (h : EJ X Z sp a m eB) (hg : Gl X "int" := by rfl) (hn : nst a = true := by rfl) : EJ X Z sp (.Call (.Name "int" fp) [a] [] pos) (m.bi fun b => .ok (if b then 1 else 0)) eI := fun F ad σ H Q S hq => by
  refine ofE (callT1 call_int1 hg hm PyProof.Rows.boot_int hn) ?_
  refine h F ad σ H _ S (hq.bi.imp fun b q F1 H1 v n1 r1 => .inr ⟨b, ?_, q F1 H1 _ n1 rfl⟩)
  have r1 : v = .bl b := r1
  rw [r1]
theorem ej_intB_p {b : Bool} (hm : X.mg "int" = none) (h : EJ X Z sp a (.ok b) eB) (hg : Gl X "int" := by rfl) (hn : nst a = true := by rfl) : EJ X Z sp (.Call (.Name "int" fp) [a] [] pos) (.ok (if b then 1 else 0)) eI := ej_intB hm h hg hn
theorem fj_list {en : Enc X.K α} {m : Res (List α)} (hm : X.mg "list" = none) (h : LJ X Z sp a m en) (hg : Gl X "list" := by rfl) (hn : nst a = true := by rfl) : FJ X Z sp (.Call (.Name "list" fp) [a] [] pos) m en := fun F ad σ H Q S hq => by
  refine ofE (callT1 call_list_of hg hm PyProof.Rows.boot_list hn) ?_
  refine h F ad σ H _ S (hq.imp fun xs q F1 H1 p vs n1 h1 hz1 r1 => ?_)
  refine ⟨p, vs, rfl, .inl h1, fun l hl => ?_⟩
  obtain ⟨g1, g2⟩ := n1.free hl
  exact q F1 _ l vs (n1.new hl) g1 g2 upd_same hz1 r1
/-- a tuple of any length, of one type -/
def eTL {K : Frag} (e : Enc K α) : Enc K (List α) := ⟨fun F v xs => ∃ p vs, v = .ref p ∧ F p = some (.tup vs) ∧ vs.length ≤ sizeLine ∧ Reps e F vs xs, fun s ⟨p, vs, h1, h2, hz, h3⟩ => ⟨p, vs, h1, s _ _ h2, hz, h3.mono s⟩⟩
theorem fj_tupl {en : Enc X.K α} {m : Res (List α)} (hm : X.mg "list" = none) (h : EJ X Z sp a m (eTL en)) (hg : Gl X "list" := by rfl) (hn : nst a = true := by rfl) : FJ X Z sp (.Call (.Name "list" fp) [a] [] pos) m en := fun F ad σ H Q S hq => by
  refine ofE (callT1 call_list_of hg hm PyProof.Rows.boot_list hn) ?_
  refine h F ad σ H _ S (hq.imp fun xs q F1 H1 v n1 r1 => ?_)
  obtain ⟨p, vs, rfl, h1, hz1, r1⟩ := r1
  refine ⟨p, vs, rfl, .inr (SqT.of (n1.fh _ _ h1)), fun l hl => ?_⟩
  obtain ⟨g1, g2⟩ := n1.free hl
  exact q F1 _ l vs (n1.new hl) g1 g2 upd_same hz1 r1
/-! ### slices -/
theorem oj_none : OJ X Z sp none (.ok none) := ⟨_, po_none, fun F ad σ H Q S hq => hq F H S.refl⟩
theorem oj_some {m : Res Int} (h : EJ X Z sp e m eI) : OJ X Z sp (some e) (m.bi fun i => .ok (some i)) := ⟨_, po_some pe_w, fun F ad σ H Q S hq => h F ad σ H _ S (hq.bi.imp fun i q F1 H1 v n1 r1 => ⟨i, r1, q F1 H1 n1⟩)⟩
theorem oj_some_p {i : Int} (h : EJ X Z sp e (.ok i) eI) : OJ X Z sp (some e) (.ok (some i)) := oj_some h
theorem fj_slice {lo hi : Option Expr} {en : Enc X.K α} {m : Res (List α)} {ml mh : Res (Option Int)} (h : LJ X Z sp a m en) (hl : OJ X Z sp lo ml) (hh : OJ X Z sp hi mh) :
    FJ X Z sp (.Subscript a (.Slice lo hi none p2) pos) (m.bi fun xs => ml.bi fun i => mh.bi fun j => .ok (cutL xs i j)) en := fun F ad σ H Q S hq => by
  obtain ⟨tl, pl, hl⟩ := hl
  obtain ⟨th, ph, hh⟩ := hh
  refine ofE (pe_slice sl_list pe_w pl ph) ?_
  refine h F ad σ H _ S (hq.bi.imp fun xs q F1 H1 p vs n1 h1 hz1 r1 => ?_)
  refine hl F1 ad σ H1 _ (S.nx n1) (q.bi.imp fun i q F2 H2 n2 => ?_)
  refine hh F2 ad σ H2 _ (S.nx (n1.trans n2)) (q.bi.imp fun j q F3 H3 n3 => ?_)
  have n := (n1.trans n2).trans n3
  refine ⟨p, vs, rfl, sqL_mono (n2.trans n3).hh h1, fun l hl => ?_⟩
  obtain ⟨g1, g2⟩ := n.free hl
  refine q F3 _ l _ (n.new hl) g1 g2 upd_same (Nat.le_trans (cutV_length _ _ _) hz1) ?_
  have r := r1.mono (n2.trans n3).ff
  unfold cutV cutL
  rw [r.length]
  exact (r.drop _).take _
theorem fj_slice_p {lo hi : Option Expr} {en : Enc X.K α} {xs : List α} {i j : Option Int} (h : LJ X Z sp a (.ok xs) en) (hl : OJ X Z sp lo (.ok i)) (hh : OJ X Z sp hi (.ok j)) :
    FJ X Z sp (.Subscript a (.Slice lo hi none p2) pos) (.ok (cutL xs i j)) en := fj_slice h hl hh
/-! ### displays -/
theorem ij_nil {en : Enc X.K α} : IJ X Z sp [] (.ok []) en := fun F ad σ H Q S hq => ofA pa_nil (hq F H [] S.refl .nil rfl)
theorem ij_cons {en : Enc X.K α} {m : Res α} {ms : Res (List α)} (h : EJ X Z sp e m en) (hr : IJ X Z sp es ms en) (hn : nst e = true := by rfl) : IJ X Z sp (e :: es) (m.bi fun x => ms.bi fun xs => .ok (x :: xs)) en := fun F ad σ H Q S hq => by
  refine ofA (pa_cons pe_w pa_w (star_cons hn)) ?_
  refine h F ad σ H _ S (hq.bi.imp fun x q F1 H1 v n1 r1 => ?_)
  refine hr F1 ad σ H1 _ (S.nx n1) (q.bi.imp fun xs q F2 H2 vs n2 r2 hl => ?_)
  exact q F2 H2 _ (n1.trans n2) (.cons (en.mono n2.ff r1) r2) (by rw [List.length_cons, List.length_cons, hl])
theorem ij_cons_p {en : Enc X.K α} {x : α} {xs : List α} (h : EJ X Z sp e (.ok x) en) (hr : IJ X Z sp es (.ok xs) en) (hn : nst e = true := by rfl) : IJ X Z sp (e :: es) (.ok (x :: xs)) en := ij_cons h hr hn
theorem fj_lst {en : Enc X.K α} {m : Res (List α)} (h : IJ X Z sp es m en) (hl : es.length ≤ 1000 := by decide) : FJ X Z sp (.List es pos) m en := fun F ad σ H Q S hq => by
  refine ofE (pe_lst pa_w) ?_
  refine h F ad σ H _ S (hq.imp fun xs q F1 H1 vs n1 r1 e => ?_)
  refine ⟨Nat.le_of_lt (small1000 (by omega)), fun l hl => ?_⟩
  obtain ⟨g1, g2⟩ := n1.free hl
  exact q F1 _ l vs (n1.new hl) g1 g2 upd_same (Nat.le_of_lt (small1000 (by omega))) r1
theorem vj_one {en : Enc X.K α} {m : Res α} (h : EJ X Z sp e m en) (hn : nst e = true := by rfl) : VJ X Z sp [e] m (vs1 en) := fun F ad σ H Q S hq => by
  refine ofA (pa_cons pe_w pa_nil (star_cons hn)) ?_
  exact h F ad σ H _ S (hq.imp fun x q F1 H1 v n1 r1 => q F1 H1 [v] n1 ⟨v, rfl, r1⟩ rfl)
theorem vj_cons {en : Enc X.K α} {r : VsE X.K γ} {m : Res α} {mg : Res γ} (h : EJ X Z sp e m en) (hr : VJ X Z sp es mg r) (hn : nst e = true := by rfl) : VJ X Z sp (e :: es) (m.bi fun x => mg.bi fun g => .ok (x, g)) (vsC en r) := fun F ad σ H Q S hq => by
  refine ofA (pa_cons pe_w pa_w (star_cons hn)) ?_
  refine h F ad σ H _ S (hq.bi.imp fun x q F1 H1 v n1 r1 => ?_)
  refine hr F1 ad σ H1 _ (S.nx n1) (q.bi.imp fun g q F2 H2 vs n2 r2 hl => ?_)
  exact q F2 H2 _ (n1.trans n2) ⟨v, vs, rfl, en.mono n2.ff r1, r2⟩ (by rw [List.length_cons, List.length_cons, hl])
theorem vj_cons_p {en : Enc X.K α} {r : VsE X.K γ} {x : α} {g : γ} (h : EJ X Z sp e (.ok x) en) (hr : VJ X Z sp es (.ok g) r) (hn : nst e = true := by rfl) : VJ X Z sp (e :: es) (.ok (x, g)) (vsC en r) := vj_cons h hr hn
theorem ej_tup {r : VsE X.K γ} {m : Res γ} {k : Nat} (h : VJ X Z sp es m r) (hl : es.length ≤ 1000 := by decide) : EJ X Z sp (.Tuple es k pos) m (eT r) := fun F ad σ H Q S hq => by
  refine ofE (pe_tup pa_w) ?_
  refine h F ad σ H _ S (hq.imp fun g q F1 H1 vs n1 r1 e => ?_)
  refine ⟨Nat.le_of_lt (small1000 (by omega)), fun l hl => ?_⟩
  obtain ⟨g1, g2⟩ := n1.free hl
  exact q (upd F1 l (.tup vs)) _ (.ref l) ((n1.new hl).fix g1 g2 upd_same) ⟨l, vs, rfl, upd_same, r.mono (same_upd g2) r1⟩
/-! ### +, * of lists -/
/-- a list of ours, a new one or one that stays -/
def MJ (X : Cx) (Z : Fz) (sp : Spec X.K) (e : Expr) {α : Type} (m : Res (List α)) (en : Enc X.K α) : Prop :=
  ∀ (F : Hp) (ad : List Addr) (σ : Sg) (H : Hp) (Q : VK), SOk Z F ad sp σ H → mwp m (fun xs => ∀ F' H' p vs, Nx F H F' H' → H' p = some (.lst vs) → vs.length ≤ sizeLine → Reps en F' vs xs → Q (.ref p) H') Z.Er → wE X e σ H Q
theorem mj_fj {en : Enc X.K α} {m : Res (List α)} (h : FJ X Z sp e m en) : MJ X Z sp e m en := fun F ad σ H Q S hm =>
  h F ad σ H Q S (hm.imp fun xs q F' H' p vs n h1 h2 h3 hz h4 => q F' H' p vs n h3 hz h4)
theorem mj_ej {en : Enc X.K α} {m : Res (List α)} (h : EJ X Z sp e m (eL en)) : MJ X Z sp e m en := fun F ad σ H Q S hm => by
  refine h F ad σ H Q S (hm.imp fun xs q F' H' v n r => ?_)
  obtain ⟨p, vs, rfl, h2, hz, h3⟩ := r
  exact q F' H' p vs n (n.fh _ _ h2) hz h3
theorem mj_own {i k : Nat} {x : Str} {en : Enc X.K α} {xs : List α} (hs : sp.sl[i]? = some (.own k) := by rfl) {t : Option Addr} (ho : sp.ob[k]? = some (.lst t en xs) := by rfl) (hN : X.N[i]? = some x := by rfl)
    (hv : Vis X.env.scope x := by first | exact Or.inl rfl | exact Or.inr (Or.inl rfl) | exact Or.inr (Or.inr rfl)) (hd : (x == ("__debug__" : Str)) = false := by decide) (hcd : (x == ("__classdict__" : Str)) = false := by decide) :
    MJ X Z sp (.Name x pos) (.ok xs) en := fun F ad σ H Q S h => by
  refine ofE (pe_var (i := i) hN hv hd hcd) ?_
  obtain ⟨o, h1, p, h2, h3⟩ := S.sl i _ hs
  obtain ⟨p', h4, vs, h5, hz, h6, h7, h8⟩ := S.ob k _ ho
  rw [h2] at h4
  have e : p = p' := Option.some.inj h4
  subst e
  exact ⟨.ref p, by rw [h1, h3], h F H p vs S.refl h5 hz h6⟩
theorem lj_mj {en : Enc X.K α} {m : Res (List α)} (h : MJ X Z sp e m en) : LJ X Z sp e m en := fun F ad σ H Q S hm =>
  h F ad σ H Q S (hm.imp fun xs q F' H' p vs n h1 hz h2 => q F' H' p vs n (SqL.of h1) hz h2)
def catM {α : Type} (xs ys : List α) : Res (List α) := gd (xs.length + ys.length ≤ sizeLine) (xs ++ ys)
theorem fj_cat {en : Enc X.K α} {ma mb : Res (List α)} (ha : MJ X Z sp a ma en) (hb : MJ X Z sp b mb en) : FJ X Z sp (.BinOp a .Add b pos) (ma.bi fun xs => mb.bi fun ys => catM xs ys) en := fun F ad σ H Q S hq => by
  refine ofE (pe_op op_cat pe_w pe_w) ?_
  refine ha F ad σ H _ S (hq.bi.imp fun xs q F1 H1 p vs n1 h1 hz1 r1 => ?_)
  refine hb F1 ad σ H1 _ (S.nx n1) (q.bi.imp fun ys q F2 H2 p2 ws n2 h2 hz2 r2 => ?_)
  obtain ⟨c, q⟩ := q.gd
  have n := n1.trans n2
  refine ⟨p, p2, vs, ws, rfl, rfl, n2.hh _ _ h1, h2, by rw [r1.length, r2.length]; exact c, fun l hl => ?_⟩
  obtain ⟨g1, g2⟩ := n.free hl
  exact q F2 _ l _ (n.new hl) g1 g2 upd_same (by rw [List.length_append, r1.length, r2.length]; exact c) ((r1.mono n2.ff).append r2)
theorem fj_cat_p {en : Enc X.K α} {xs ys : List α} (ha : MJ X Z sp a (.ok xs) en) (hb : MJ X Z sp b (.ok ys) en) : FJ X Z sp (.BinOp a .Add b pos) (catM xs ys) en := fj_cat ha hb
def repM {α : Type} (xs : List α) (k : Int) : Res (List α) := gd (-(2 ^ 63) ≤ k ∧ k < 2 ^ 63 ∧ xs.length * k.toNat ≤ sizeLine) (List.replicate k.toNat xs).flatten
theorem Reps.flat {K : Frag} {en : Enc K α} {F : Hp} {vs : List V} {xs : List α} (h : Reps en F vs xs) : ∀ k : Nat, Reps en F (List.replicate k vs).flatten (List.replicate k xs).flatten
  | 0 => .nil
  | k + 1 => by
    rw [List.replicate_succ, List.replicate_succ, List.flatten_cons, List.flatten_cons]
    exact h.append (Reps.flat h k)
theorem fj_rep {en : Enc X.K α} {ma : Res (List α)} {mb : Res Int} (ha : MJ X Z sp a ma en) (hb : EJ X Z sp b mb eI) : FJ X Z sp (.BinOp a .Mult b pos) (ma.bi fun xs => mb.bi fun k => repM xs k) en := fun F ad σ H Q S hq => by
  refine ofE (pe_op op_rep pe_w pe_w) ?_
  refine ha F ad σ H _ S (hq.bi.imp fun xs q F1 H1 p vs n1 h1 hz1 r1 => ?_)
  refine hb F1 ad σ H1 _ (S.nx n1) (q.bi.imp fun k q F2 H2 v n2 r2 => ?_)
  obtain ⟨⟨c1, c2, c3⟩, q⟩ := q.gd
  have n := n1.trans n2
  refine ⟨p, k, vs, rfl, r2, n2.hh _ _ h1, c1, c2, by rw [r1.length]; exact c3, fun l hl => ?_⟩
  obtain ⟨g1, g2⟩ := n.free hl
  exact q F2 _ l _ (n.new hl) g1 g2 upd_same (by rw [((r1.mono n2.ff).flat _).length]; simpa [Nat.mul_comm] using c3) ((r1.mono n2.ff).flat _)
theorem fj_rep_p {en : Enc X.K α} {xs : List α} {k : Int} (ha : MJ X Z sp a (.ok xs) en) (hb : EJ X Z sp b (.ok k) eI) : FJ X Z sp (.BinOp a .Mult b pos) (repM xs k) en := fj_rep ha hb
/-! ### in, index: flat things -/
/-- flat data: their equality -/
structure FlE {K : Frag} {α : Type} [DecidableEq α] (e : Enc K α) : Prop where
  fl : ∀ F v a, e.rep F v a → flatV v = true
  eq : ∀ F F' v w a b, e.rep F v a → e.rep F' w b → eqV v w = decide (a = b)
theorem flI {K : Frag} : FlE (eI : Enc K Int) := ⟨fun F v a h => by
  have e : v = .int a := h
  subst e; rfl, fun F F' v w a b h1 h2 => by
  have e1 : v = .int a := h1
  have e2 : w = .int b := h2
  subst e1 e2
  show (a == b) = decide (a = b)
  by_cases e : a = b
  · subst e; simp
  · simp [e]⟩
theorem flS {K : Frag} : FlE (eS : Enc K Str) := ⟨fun F v a h => by
  have e : v = .str a := h
  subst e; rfl, fun F F' v w a b h1 h2 => by
  have e1 : v = .str a := h1
  have e2 : w = .str b := h2
  subst e1 e2
  show (a == b) = decide (a = b)
  by_cases e : a = b
  · subst e; simp
  · simp [e]⟩
theorem Reps.flat_all {K : Frag} [DecidableEq α] {en : Enc K α} (fl : FlE en) {F : Hp} : ∀ {vs : List V} {xs : List α}, Reps en F vs xs → vs.all flatV = true
  | _, _, .nil => rfl
  | _, _, .cons r t => by rw [List.all_cons, fl.fl _ _ _ r, Reps.flat_all fl t]; rfl
theorem Reps.inV {K : Frag} [DecidableEq α] {en : Enc K α} (fl : FlE en) {F F' : Hp} {v : V} {x : α} (r : en.rep F' v x) : ∀ {vs : List V} {xs : List α}, Reps en F vs xs → inV v vs = decide (x ∈ xs)
  | _, _, .nil => by simp [L2.inV]
  | _, _, .cons (a := w) (b := y) (l₁ := vs) (l₂ := xs) q t => by
    show (w :: vs).any (fun y => eqV y v) = _
    rw [List.any_cons, show vs.any (fun y => eqV y v) = decide (x ∈ xs) from Reps.inV fl r t, fl.eq _ _ _ _ _ _ q r]
    simp [List.mem_cons, eq_comm]
theorem cj_in [DecidableEq α] {en : Enc X.K α} (fl : FlE en) {ma : Res α} {mb : Res (List α)} (ha : EJ X Z sp a ma en) (hb : LJ X Z sp b mb en) : CJ X Z sp .In a b (ma.bi fun x => mb.bi fun xs => .ok (decide (x ∈ xs))) := ⟨_, op_in_seq, fun F ad σ H Q S hm => by
  refine ha F ad σ H _ S (hm.bi.imp fun x q F1 H1 v n1 r1 => ?_)
  refine hb F1 ad σ H1 _ (S.nx n1) (q.bi.imp fun xs q F2 H2 p vs n2 h2 hz2 r2 => ?_)
  refine ⟨p, vs, rfl, .inl h2, fl.fl _ _ _ r1, r2.flat_all fl, ?_⟩
  rw [r2.inV fl r1]
  exact q F2 H2 (n1.trans n2)⟩
theorem cj_notIn [DecidableEq α] {en : Enc X.K α} (fl : FlE en) {ma : Res α} {mb : Res (List α)} (ha : EJ X Z sp a ma en) (hb : LJ X Z sp b mb en) : CJ X Z sp .NotIn a b (ma.bi fun x => mb.bi fun xs => .ok (!decide (x ∈ xs))) := ⟨_, op_notIn_seq, fun F ad σ H Q S hm => by
  refine ha F ad σ H _ S (hm.bi.imp fun x q F1 H1 v n1 r1 => ?_)
  refine hb F1 ad σ H1 _ (S.nx n1) (q.bi.imp fun xs q F2 H2 p vs n2 h2 hz2 r2 => ?_)
  refine ⟨p, vs, rfl, .inl h2, fl.fl _ _ _ r1, r2.flat_all fl, ?_⟩
  rw [r2.inV fl r1]
  exact q F2 H2 (n1.trans n2)⟩
theorem cj_in_p [DecidableEq α] {en : Enc X.K α} (fl : FlE en) {x : α} {xs : List α} (ha : EJ X Z sp a (.ok x) en) (hb : LJ X Z sp b (.ok xs) en) : CJ X Z sp .In a b (.ok (decide (x ∈ xs))) := cj_in fl ha hb
theorem cj_notIn_p [DecidableEq α] {en : Enc X.K α} (fl : FlE en) {x : α} {xs : List α} (ha : EJ X Z sp a (.ok x) en) (hb : LJ X Z sp b (.ok xs) en) : CJ X Z sp .NotIn a b (.ok (!decide (x ∈ xs))) := cj_notIn fl ha hb
/-- the first place of an item -/
def idxM {α : Type} [DecidableEq α] (xs : List α) (x : α) : Res Int := match xs.findIdx? (fun y => decide (y = x)) with
  | some j => .ok (j : Int)
  | none => .bad
theorem bm_list {apos : Pos} {name : Str} {r : V → List V → Hp → VK → Prop} (slot : Slot "list" name id) (hty : typeOf (.builtin id) = pure (.type "method_descriptor")) (hm : MtR X id r) (hn : nst b = true) (hline : (apos.endLine == pos.line) = true)
    (hbase : attributeBase a name X.env (eval a X.env) = eval a X.env) : PE X (.Call (.Attribute a name apos) [b] [] pos) (tBM X.K "list" r (wE X a) (tCons (wE X b) tNil)) :=
  pe_bm PySem.F.plainAttrs_list slot hty hm pe_w (pa_cons pe_w pa_nil (star_cons hn)) hbase (by rw [star_cons hn]; rfl) hline (star_cons hn) rfl
theorem find_some {α : Type} [DecidableEq α] {xs : List α} {x : α} {j : Nat} (h : xs.findIdx? (fun y => decide (y = x)) = some j) : xs[j]? = some x ∧ ∀ m < j, ∀ z, xs[m]? = some z → z ≠ x := by
  rw [List.findIdx?_eq_some_iff_getElem] at h
  obtain ⟨hj, h1, h2⟩ := h
  refine ⟨by rw [List.getElem?_eq_getElem hj]; exact congrArg some (of_decide_eq_true h1), fun m hm z hz e => ?_⟩
  have q := h2 m hm
  have hml : m < xs.length := Nat.lt_trans hm hj
  rw [List.getElem?_eq_getElem hml] at hz
  have e2 : xs[m] = z := Option.some.inj hz
  rw [e2, e] at q
  simp at q
theorem ej_index [DecidableEq α] {apos : Pos} {en : Enc X.K α} (fl : FlE en) {ma : Res (List α)} {mb : Res α} (ha : LJ X Z sp a ma en) (hb : EJ X Z sp b mb en) (hn : nst b = true := by rfl) (hline : (apos.endLine == pos.line) = true := by rfl)
    (hbase : attributeBase a "index" X.env (eval a X.env) = eval a X.env := by rfl) : EJ X Z sp (.Call (.Attribute a "index" apos) [b] [] pos) (ma.bi fun xs => mb.bi fun x => idxM xs x) eI := fun F ad σ H Q S hq => by
  refine ofE (bm_list PySem.F.slot_list_index PySem.F.type_list_index mt_index hn hline hbase) ?_
  refine ha F ad σ H _ S (hq.bi.imp fun xs q F1 H1 p vs n1 h1 hz1 r1 => ⟨.inl ⟨rfl, vs, h1⟩, ?_⟩)
  refine hb F1 ad σ H1 _ (S.nx n1) (q.bi.imp fun x q F2 H2 v n2 r2 => ?_)
  unfold idxM at q
  cases e : xs.findIdx? (fun y => decide (y = x)) with
  | none => rw [e] at q; exact q.elim
  | some j =>
    rw [e] at q
    obtain ⟨g1, g2⟩ := find_some e
    have r := r1.mono n2.ff
    obtain ⟨w, k1, k2⟩ := r.get g1
    refine ⟨p, vs, v, j, w, rfl, rfl, sqL_mono n2.hh h1, fl.fl _ _ _ r2, r.flat_all fl, k1, by rw [fl.eq _ _ _ _ _ _ k2 r2]; simp, fun m z hm hz => ?_, q F2 H2 _ (n1.trans n2) rfl⟩
    obtain ⟨y, k3, k4⟩ := r.getV hz
    rw [fl.eq _ _ _ _ _ _ k4 r2]
    exact decide_eq_false (g2 m hm y k3)
theorem ej_index_p [DecidableEq α] {apos : Pos} {en : Enc X.K α} (fl : FlE en) {xs : List α} {x : α} (ha : LJ X Z sp a (.ok xs) en) (hb : EJ X Z sp b (.ok x) en) (hn : nst b = true := by rfl) (hline : (apos.endLine == pos.line) = true := by rfl)
    (hbase : attributeBase a "index" X.env (eval a X.env) = eval a X.env := by rfl) : EJ X Z sp (.Call (.Attribute a "index" apos) [b] [] pos) (idxM xs x) eI := ej_index fl ha hb hn hline hbase
/-! ### isinstance -/
def TyE {K : Frag} {α : Type} (e : Enc K α) (t : String) : Prop := ∀ F H v a, Same F H → e.rep F v a → TyX K H v (.type t)
theorem tyI {K : Frag} : TyE (eI : Enc K Int) "int" := fun F H v a s h => by
  have e : v = .int a := h
  subst e; exact .base (.int a)
theorem tyB {K : Frag} : TyE (eB : Enc K Bool) "bool" := fun F H v a s h => by
  have e : v = .bl a := h
  subst e; exact .base (.bl a)
theorem tyS {K : Frag} : TyE (eS : Enc K Str) "str" := fun F H v a s h => by
  have e : v = .str a := h
  subst e; exact .base (.str a)
theorem tyU {K : Frag} : TyE (eU : Enc K Unit) "NoneType" := fun F H v a s h => by
  have e : v = .non := h
  subst e; exact .base .non
theorem tyL {K : Frag} {e : Enc K α} : TyE (eL e) "list" := fun F H v a s h => by
  obtain ⟨p, vs, rfl, h1, hz, h2⟩ := h
  exact .base (.lst (s _ _ h1))
theorem tyX_T {K : Frag} {H : Hp} {p : Addr} {vs : List V} (h : SqT K H p vs) : TyX K H (.ref p) (.type "tuple") := by
  rcases h with (h | ⟨o, h⟩) | ⟨o, its, n, h1, h2, _⟩
  · exact .base (.tup h)
  · exact .fTuple h
  · exact .kTuple h1 h2
theorem tyX_L {K : Frag} {H : Hp} {p : Addr} {vs : List V} (h : SqL K H p vs) : TyX K H (.ref p) (.type "list") := by
  rcases h with (h | ⟨o, h⟩) | ⟨o, its, n, h1, h2, _⟩
  · exact .base (.lst h)
  · exact .base (.frz h)
  · exact .kList h1 h2
theorem tyT {K : Frag} {r : VsE K α} : TyE (eT r) "tuple" := fun F H v a s h => by
  obtain ⟨p, vs, rfl, h1, h2⟩ := h
  exact .base (.tup (s _ _ h1))
/-- isinstance of a value, T a built-in type -/
theorem ej_isi {en : Enc X.K α} {m : Res α} {t n : String} {x : Str} {bt : Bool} {xp : Pos} (ty : TyE en t) (hm : X.mg "isinstance" = none) (hm2 : X.mg x = none) (hv : bootBuiltins x = some (.type n)) (hk : kitB t n = some bt) (ha : EJ X Z sp a m en) (hg : Gl X "isinstance" := by rfl) (hg2 : Gl X x := by rfl) (hn : nst a = true := by rfl)
    (hx : x ≠ "__name__" := by decide) (hdb : (x == ("__debug__" : Str)) = false := by decide) : EJ X Z sp (.Call (.Name "isinstance" fp) [a, .Name x xp] [] pos) (m.bi fun _ => .ok bt) eB := fun F ad σ H Q S hq => by
  refine ofE (callB2 call_isi hg hm PyProof.Rows.boot_isinstance hn rfl) ?_
  refine ha F ad σ H _ S (hq.bi.imp fun xs q F1 H1 v n1 r1 => ?_)
  refine ofE (pe_bltn (v := .ty n) hg2 hm2 hv rfl hx hdb) ?_
  exact ⟨v, .ty n, .type t, .type n, bt, rfl, .ty n, ty F1 H1 v xs n1.fh r1, kit_ty hk, q F1 H1 _ n1 rfl⟩
theorem ej_isi_p {en : Enc X.K α} {v : α} {t n : String} {x : Str} {bt : Bool} {xp : Pos} (ty : TyE en t) (hm : X.mg "isinstance" = none) (hm2 : X.mg x = none) (hv : bootBuiltins x = some (.type n)) (hk : kitB t n = some bt) (ha : EJ X Z sp a (.ok v) en) (hg : Gl X "isinstance" := by rfl) (hg2 : Gl X x := by rfl) (hn : nst a = true := by rfl)
    (hx : x ≠ "__name__" := by decide) (hdb : (x == ("__debug__" : Str)) = false := by decide) : EJ X Z sp (.Call (.Name "isinstance" fp) [a, .Name x xp] [] pos) (.ok bt) eB := ej_isi ty hm hm2 hv hk ha hg hg2 hn hx hdb
/-- of a list of ours -/
theorem ej_isiL {en : Enc X.K α} {m : Res (List α)} {n : String} {x : Str} {bt : Bool} {xp : Pos} (hm : X.mg "isinstance" = none) (hm2 : X.mg x = none) (hv : bootBuiltins x = some (.type n)) (hk : kitB "list" n = some bt) (ha : LJ X Z sp a m en) (hg : Gl X "isinstance" := by rfl) (hg2 : Gl X x := by rfl) (hn : nst a = true := by rfl)
    (hx : x ≠ "__name__" := by decide) (hdb : (x == ("__debug__" : Str)) = false := by decide) : EJ X Z sp (.Call (.Name "isinstance" fp) [a, .Name x xp] [] pos) (m.bi fun _ => .ok bt) eB := fun F ad σ H Q S hq => by
  refine ofE (callB2 call_isi hg hm PyProof.Rows.boot_isinstance hn rfl) ?_
  refine ha F ad σ H _ S (hq.bi.imp fun xs q F1 H1 p vs n1 h1 hz1 r1 => ?_)
  refine ofE (pe_bltn (v := .ty n) hg2 hm2 hv rfl hx hdb) ?_
  exact ⟨.ref p, .ty n, .type "list", .type n, bt, rfl, .ty n, tyX_L h1, kit_ty hk, q F1 H1 _ n1 rfl⟩
theorem ej_isiL_p {en : Enc X.K α} {xs : List α} {n : String} {x : Str} {bt : Bool} {xp : Pos} (hm : X.mg "isinstance" = none) (hm2 : X.mg x = none) (hv : bootBuiltins x = some (.type n)) (hk : kitB "list" n = some bt) (ha : LJ X Z sp a (.ok xs) en) (hg : Gl X "isinstance" := by rfl) (hg2 : Gl X x := by rfl) (hn : nst a = true := by rfl)
    (hx : x ≠ "__name__" := by decide) (hdb : (x == ("__debug__" : Str)) = false := by decide) : EJ X Z sp (.Call (.Name "isinstance" fp) [a, .Name x xp] [] pos) (.ok bt) eB := ej_isiL hm hm2 hv hk ha hg hg2 hn hx hdb
/-! ### sorted -/
def leI (i j : Int) : Bool := decide (i ≤ j)
def leP (x y : Int × Int) : Bool := decide (x.1 < y.1) || (decide (x.1 = y.1) && decide (x.2 ≤ y.2))
theorem perm_sorted_eq {α : Type} {r : α → α → Prop} (anti : ∀ a b, r a b → r b a → a = b) : ∀ {xs ys : List α}, xs.Perm ys → xs.Pairwise r → ys.Pairwise r → xs = ys
  | [], ys, h, _, _ => (List.nil_perm.mp h).symm ▸ rfl
  | x :: xs, [], h, _, _ => nomatch (List.perm_nil.mp h)
  | x :: xs, y :: ys, h, hx, hy => by
    have ex : x = y := by
      have h1 : x ∈ y :: ys := h.subset (List.mem_cons_self ..)
      have h2 : y ∈ x :: xs := h.symm.subset (List.mem_cons_self ..)
      rcases List.mem_cons.mp h1 with e | h1
      · exact e
      · rcases List.mem_cons.mp h2 with e | h2
        · exact e.symm
        · exact anti _ _ ((List.pairwise_cons.mp hx).1 _ h2) ((List.pairwise_cons.mp hy).1 _ h1)
    subst ex
    rw [perm_sorted_eq anti (List.Perm.cons_inv h) (List.pairwise_cons.mp hx).2 (List.pairwise_cons.mp hy).2]
theorem sort_int (xs : List Int) : (xs.mergeSort leI).Perm xs ∧ (xs.mergeSort leI).Pairwise (· ≤ ·) := ⟨List.mergeSort_perm _ _, by
  have h := List.pairwise_mergeSort (le := leI) (fun a b c h1 h2 => by
    have h1 := of_decide_eq_true h1
    have h2 := of_decide_eq_true h2
    exact decide_eq_true (Int.le_trans h1 h2)) (fun a b => by
    unfold leI
    by_cases h : a ≤ b
    · simp [h]
    · simp [h]; omega) xs
  exact h.imp fun q => of_decide_eq_true q⟩
theorem fj_sorted {m : Res (List Int)} (hm : X.mg "sorted" = none) (h : LJ X Z sp a m eI) (hg : Gl X "sorted" := by rfl) (hn : nst a = true := by rfl) : FJ X Z sp (.Call (.Name "sorted" fp) [a] [] pos) (m.bi fun xs => .ok (xs.mergeSort leI)) eI := fun F ad σ H Q S hq => by
  refine ofE (callB1 cr_sortedI hg hm (by decide +kernel) hn) ?_
  refine h F ad σ H _ S (hq.bi.imp fun xs q F1 H1 p vs n1 h1 hz1 r1 => ?_)
  have e := r1.int
  subst e
  refine ⟨p, xs, rfl, h1, fun ns' l pm pw hl => ?_⟩
  obtain ⟨g1, g2⟩ := n1.free hl
  obtain ⟨k1, k2⟩ := sort_int xs
  have e : ns' = xs.mergeSort leI := perm_sorted_eq (fun a b => Int.le_antisymm) (pm.trans k1.symm) pw k2
  subst e
  exact q F1 _ l _ (n1.new hl) g1 g2 upd_same (by rw [List.length_map, k1.length_eq]; simpa using hz1) (Reps.ofInt _)
theorem fj_sorted_p {xs : List Int} (hm : X.mg "sorted" = none) (h : LJ X Z sp a (.ok xs) eI) (hg : Gl X "sorted" := by rfl) (hn : nst a = true := by rfl) : FJ X Z sp (.Call (.Name "sorted" fp) [a] [] pos) (.ok (xs.mergeSort leI)) eI := fj_sorted hm h hg hn
def eP {K : Frag} : Enc K (Int × Int) := eT (vsC eI (vs1 eI))
def pairOf (H : Hp) (v : V) : Int × Int := match v with
  | .ref t => (match H t with
    | some (.tup [.int a, .int b]) => (a, b)
    | _ => (0, 0))
  | _ => (0, 0)
theorem eP_at {K : Frag} {F H : Hp} {v : V} {x : Int × Int} (s : Same F H) (h : (eP : Enc K (Int × Int)).rep F v x) : pairOf H v = x ∧ ∃ t, v = .ref t ∧ H t = some (.tup [.int (pairOf H v).1, .int (pairOf H v).2]) := by
  obtain ⟨p, vs, rfl, h1, v1, ws, rfl, e1, v2, rfl, e2⟩ := h
  have e1 : v1 = .int x.1 := e1
  have e2 : v2 = .int x.2 := e2
  subst e1 e2
  have h2 := s _ _ h1
  have e : pairOf H (.ref p) = x := by
    unfold pairOf
    simp only [h2]
  rw [e]
  exact ⟨rfl, p, rfl, h2⟩
theorem leP_anti (a b : Int × Int) (h1 : leP a b = true) (h2 : leP b a = true) : a = b := by
  obtain ⟨a1, a2⟩ := a
  obtain ⟨b1, b2⟩ := b
  simp only [leP, Bool.or_eq_true, Bool.and_eq_true, decide_eq_true_eq] at h1 h2
  have e1 : a1 = b1 := by omega
  have e2 : a2 = b2 := by omega
  rw [e1, e2]
theorem sort_pair (xs : List (Int × Int)) : (xs.mergeSort leP).Perm xs ∧ (xs.mergeSort leP).Pairwise (fun a b => leP a b = true) := ⟨List.mergeSort_perm _ _, List.pairwise_mergeSort (fun a b c h1 h2 => by
    simp only [leP, Bool.or_eq_true, Bool.and_eq_true, decide_eq_true_eq] at h1 h2 ⊢
    omega) (fun a b => by
    simp only [leP, Bool.or_eq_true, Bool.and_eq_true, decide_eq_true_eq]
    omega) xs⟩
theorem Reps.mem {K : Frag} {en : Enc K α} {F : Hp} {vs : List V} {xs : List α} (h : Reps en F vs xs) {v : V} (hv : v ∈ vs) : ∃ x ∈ xs, en.rep F v x := by
  obtain ⟨i, hi⟩ := List.mem_iff_getElem?.mp hv
  obtain ⟨x, h1, h2⟩ := h.getV hi
  exact ⟨x, List.mem_of_getElem? h1, h2⟩
theorem Reps.ofMap {K : Frag} {en : Enc K α} {F : Hp} {f : V → α} : ∀ {vs : List V}, (∀ v ∈ vs, en.rep F v (f v)) → Reps en F vs (vs.map f)
  | [], _ => .nil
  | v :: vs, h => .cons (h v (List.mem_cons_self ..)) (Reps.ofMap fun w hw => h w (List.mem_cons_of_mem _ hw))
theorem Reps.isMap {K : Frag} {en : Enc K α} {F : Hp} {f : V → α} (hf : ∀ v x, en.rep F v x → f v = x) : ∀ {vs : List V} {xs : List α}, Reps en F vs xs → xs = vs.map f
  | _, _, .nil => rfl
  | _, _, .cons r t => by rw [List.map_cons, hf _ _ r, ← Reps.isMap hf t]
theorem fj_sortedP {m : Res (List (Int × Int))} (hm : X.mg "sorted" = none) (h : LJ X Z sp a m eP) (hg : Gl X "sorted" := by rfl) (hn : nst a = true := by rfl) : FJ X Z sp (.Call (.Name "sorted" fp) [a] [] pos) (m.bi fun xs => .ok (xs.mergeSort leP)) eP := fun F ad σ H Q S hq => by
  refine ofE (callB1 cr_sortedPO hg hm (by decide +kernel) hn) ?_
  refine h F ad σ H _ S (hq.bi.imp fun xs q F1 H1 p vs n1 h1 hz1 r1 => ?_)
  refine ⟨p, vs, pairOf H1, rfl, h1, fun v hv => ?_, fun ys l srt stb hl => ?_⟩
  · obtain ⟨x, _, hx⟩ := r1.mem hv
    exact (eP_at n1.fh hx).2
  · obtain ⟨g1, g2⟩ := n1.free hl
    have ex : xs = vs.map (pairOf H1) := r1.isMap fun v x hx => (eP_at n1.fh hx).1
    have ry : Reps eP F1 ys (ys.map (pairOf H1)) := Reps.ofMap fun v hv => by
      obtain ⟨x, _, hx⟩ := r1.mem (stb.perm.mem_iff.mp hv)
      rw [(eP_at n1.fh hx).1]
      exact hx
    have pm : (ys.map (pairOf H1)).Perm xs := by
      rw [ex]
      exact stb.perm.map _
    obtain ⟨k1, k2⟩ := sort_pair xs
    have pw : (ys.map (pairOf H1)).Pairwise (fun a b => leP a b = true) := by
      rw [List.pairwise_map]
      refine List.Pairwise.imp (fun {u v} q => ?_) srt
      have q2 := SrtO.lexB_no.mp q
      simp only [leP, Bool.or_eq_true, Bool.and_eq_true, decide_eq_true_eq]
      omega
    have e : ys.map (pairOf H1) = xs.mergeSort leP := perm_sorted_eq leP_anti (pm.trans k1.symm) pw k2
    rw [e] at ry
    exact q F1 _ l _ (n1.new hl) g1 g2 upd_same (by rw [stb.perm.length_eq]; exact hz1) ry
theorem fj_sortedP_p {xs : List (Int × Int)} (hm : X.mg "sorted" = none) (h : LJ X Z sp a (.ok xs) eP) (hg : Gl X "sorted" := by rfl) (hn : nst a = true := by rfl) : FJ X Z sp (.Call (.Name "sorted" fp) [a] [] pos) (.ok (xs.mergeSort leP)) eP := fj_sortedP hm h hg hn
end
end Wk

set_option Elab.async false
set_option linter.all false
set_option maxRecDepth 100000
set_option maxHeartbeats 4000000
namespace Wk
open PySem PySem.Spec PyProof.Rows L2
/-! ### contracts of defs -/
/-- a row of arguments: how it shows data; the slots that it makes -/
structure ArE (K : Frag) (γ : Type) where
  rep : Hp → Hp → List V → γ → Prop
  mono : ∀ {F F' H H' : Hp} {vs : List V} {g : γ}, Same F F' → Same H H' → rep F H vs g → rep F' H' vs g
  sl : γ → List (Sl K)
  ok : ∀ {F H : Hp} {vs : List V} {g : γ}, rep F H vs g → vs.length = (sl g).length ∧ ∀ (i : Nat) (s : Sl K), (sl g)[i]? = some s → ∃ v, vs[i]? = some v ∧ slOk H F [] s (some v)
section
variable {K : Frag} {α β γ ρ : Type}
def ar0 : ArE K Unit := ⟨fun _ _ vs _ => vs = [], fun _ _ h => h, fun _ => [], fun h => by
  subst h
  exact ⟨rfl, fun i s e => by simp at e⟩⟩
def arV (e : Enc K α) (r : ArE K γ) : ArE K (α × γ) := ⟨fun F H vs g => ∃ v ws, vs = v :: ws ∧ e.rep F v g.1 ∧ r.rep F H ws g.2, fun s t ⟨v, ws, h1, h2, h3⟩ => ⟨v, ws, h1, e.mono s h2, r.mono s t h3⟩, fun g => .val e g.1 :: r.sl g.2, fun ⟨v, ws, h1, h2, h3⟩ => by
  subst h1
  obtain ⟨k1, k2⟩ := r.ok h3
  refine ⟨by rw [List.length_cons, List.length_cons, k1], fun i s e => ?_⟩
  cases i with
  | zero =>
    simp at e
    subst e
    exact ⟨v, rfl, v, rfl, h2⟩
  | succ i =>
    obtain ⟨u, q1, q2⟩ := k2 i s (by simpa using e)
    exact ⟨u, by simpa using q1, q2⟩⟩
def arL (e : Enc K α) (r : ArE K γ) : ArE K (List α × γ) := ⟨fun F H vs g => ∃ p us ws, vs = .ref p :: ws ∧ SqL K H p us ∧ us.length ≤ sizeLine ∧ Reps e F us g.1 ∧ r.rep F H ws g.2, fun s t ⟨p, us, ws, h1, h2, hz, h3, h4⟩ => ⟨p, us, ws, h1, sqL_mono t h2, hz, h3.mono s, r.mono s t h4⟩, fun g => .bor e g.1 :: r.sl g.2, fun ⟨p, us, ws, h1, h2, hz, h3, h4⟩ => by
  subst h1
  obtain ⟨k1, k2⟩ := r.ok h4
  refine ⟨by rw [List.length_cons, List.length_cons, k1], fun i s e => ?_⟩
  cases i with
  | zero =>
    simp at e
    subst e
    exact ⟨.ref p, rfl, p, us, rfl, h2, hz, h3⟩
  | succ i =>
    obtain ⟨u, q1, q2⟩ := k2 i s (by simpa using e)
    exact ⟨u, by simpa using q1, q2⟩⟩
/-- what is handed back: by the heap at the entry, what stays, the heap at the end -/
abbrev RtE (ρ : Type) := Hp → Hp → Hp → V → ρ → Prop
def rtV (e : Enc K ρ) : RtE ρ := fun _ F' _ v r => e.rep F' v r
def rtN (e : Enc K α) : RtE (List α) := fun G F' H' v r => ∃ p vs, v = .ref p ∧ G p = none ∧ F' p = none ∧ H' p = some (.lst vs) ∧ vs.length ≤ sizeLine ∧ Reps e F' vs r
def spF (mg : Str → Option Value) (A : ArE K γ) (mf : γ → Res ρ) (R : RtE ρ) : Sp := fun vs H Q E => ∃ F g, Same F H ∧ A.rep F H vs g ∧
  mwp (mf g) (fun r => ∀ F' H' v, Nx F H F' H' → R H F' H' v r → Q v H') (fun c => ∀ C H', mg c = some (.ref C) → Same H H' → E (.ref C) none H')
end
/-- a def of the text, by its promise -/
structure Cal (P : Program) (w : World) (K : Frag) (mg : Str → Option Value) (base : Heap) (x : Str) (k : Nat) (sp : Sp) : Prop where
  ex : ∃ f fd ps, FnOk P w K mg base (L2.CX P w) k f fd ps sp ∧ mg x = some (.ref f) ∧ PySem.W.keepIn K (.ref f) = true ∧ Binds K fd ps []
/-- where code runs -/
structure Amb (X : Cx) (Z : Fz) (k : Nat) : Prop where
  hr : Room k X.A
  calm : X.calm = true
  nd : X.N.Nodup
  po : PassesOwn (model X.prog X.w) X.A X.env X.xe
  ps : ∃ E : XK, Takes X (fun cls d _ H => E cls d H) ∧ ∀ c, Z.Er c → ∀ C H', X.mg c = some (.ref C) → Same Z.G H' → E (.ref C) none H'
section
variable {X : Cx} {Z : Fz} {sp : Spec X.K} {a b c e : Expr} {es : List Expr} {pos p p2 fp : Pos} {α β γ ρ : Type} {k j : Nat} {x : Str}
def AJ (X : Cx) (Z : Fz) (sp : Spec X.K) (es : List Expr) {γ : Type} (m : Res γ) (A : ArE X.K γ) : Prop :=
  ∀ (F : Hp) (ad : List Addr) (σ : Sg) (H : Hp) (Q : List V → Hp → Prop), SOk Z F ad sp σ H → mwp m (fun g => ∀ F' H' vs, Nx F H F' H' → A.rep F' H' vs g → Q vs H') Z.Er → wA X es σ H Q
theorem aj_nil : AJ X Z sp [] (.ok ()) ar0 := fun F ad σ H Q S hq => ofA pa_nil (hq F H [] S.refl rfl)
theorem aj_val {en : Enc X.K α} {A : ArE X.K γ} {m : Res α} {mr : Res γ} (h : EJ X Z sp e m en) (hr : AJ X Z sp es mr A) (hn : nst e = true := by rfl) : AJ X Z sp (e :: es) (m.bi fun x => mr.bi fun g => .ok (x, g)) (arV en A) := fun F ad σ H Q S hq => by
  refine ofA (pa_cons pe_w pa_w (star_cons hn)) ?_
  refine h F ad σ H _ S (hq.bi.imp fun x q F1 H1 v n1 r1 => ?_)
  refine hr F1 ad σ H1 _ (S.nx n1) (q.bi.imp fun g q F2 H2 vs n2 r2 => ?_)
  exact q F2 H2 _ (n1.trans n2) ⟨v, vs, rfl, en.mono n2.ff r1, r2⟩
theorem aj_lst {en : Enc X.K α} {A : ArE X.K γ} {m : Res (List α)} {mr : Res γ} (h : LJ X Z sp e m en) (hr : AJ X Z sp es mr A) (hn : nst e = true := by rfl) : AJ X Z sp (e :: es) (m.bi fun x => mr.bi fun g => .ok (x, g)) (arL en A) := fun F ad σ H Q S hq => by
  refine ofA (pa_cons pe_w pa_w (star_cons hn)) ?_
  refine h F ad σ H _ S (hq.bi.imp fun x q F1 H1 p us n1 h1 hz r1 => ?_)
  refine hr F1 ad σ H1 _ (S.nx n1) (q.bi.imp fun g q F2 H2 vs n2 r2 => ?_)
  exact q F2 H2 _ (n1.trans n2) ⟨p, us, vs, rfl, sqL_mono n2.hh h1, hz, r1.mono n2.ff, r2⟩
theorem aj_val_p {en : Enc X.K α} {A : ArE X.K γ} {v : α} {g : γ} (h : EJ X Z sp e (.ok v) en) (hr : AJ X Z sp es (.ok g) A) (hn : nst e = true := by rfl) : AJ X Z sp (e :: es) (.ok (v, g)) (arV en A) := aj_val h hr hn
theorem aj_lst_p {en : Enc X.K α} {A : ArE X.K γ} {v : List α} {g : γ} (h : LJ X Z sp e (.ok v) en) (hr : AJ X Z sp es (.ok g) A) (hn : nst e = true := by rfl) : AJ X Z sp (e :: es) (.ok (v, g)) (arL en A) := aj_lst h hr hn
/-- a call -/
theorem call_core {A : ArE X.K γ} {mf : γ → Res ρ} {R : RtE ρ} {ma : Res γ} (am : Amb X Z k) (C : Cal X.prog X.w X.K X.mg X.base x j (spF X.mg A mf R)) (hj : j ≤ k) (ha : AJ X Z sp (e :: es) ma A) (hn : nst e = true) (hg : Gl X x)
    (hpl : (backTo pos (starEach es X.env)).any (·.1) = false) (hdb : (x == ("__debug__" : Str)) = false) (F : Hp) (ad : List Addr) (σ : Sg) (H : Hp) (Q : VK) (S : SOk Z F ad sp σ H)
    (hm : mwp (ma.bi mf) (fun r => ∀ F' H' v F1 H1, Nx F H F1 H1 → Nx F1 H1 F' H' → R H1 F' H' v r → Q v H') Z.Er) : wE X (.Call (.Name x fp) (e :: es) [] pos) σ H Q := by
  obtain ⟨f, fd, ps, G, hmg, hk, hb⟩ := C.ex
  obtain ⟨E, pE, hE⟩ := am.ps
  refine ofE (pe_call (E := E) G (am.hr.mono hj) hg hmg hk hb .nil (passes_call pE fun _ _ _ _ h => h) pa_w hdb (star_cons hn) hpl) ?_
  refine ha F ad σ H _ S (hm.bi.imp fun g q F1 H1 vs n1 r1 => ?_)
  show spF X.mg A mf R (vs ++ []) H1 Q E
  rw [List.append_nil]
  exact ⟨F1, g, n1.fh, r1, q.imp2 (fun r q F' H' v n2 hr => q F' H' v F1 H1 n1 n2 hr) fun c hc C H' hC s => hE c hc C H' hC (S.gh.trans (n1.hh.trans s))⟩
theorem ej_call {A : ArE X.K γ} {mf : γ → Res ρ} {en : Enc X.K ρ} {ma : Res γ} (am : Amb X Z k) (C : Cal X.prog X.w X.K X.mg X.base x j (spF X.mg A mf (rtV en))) (hj : j ≤ k) (ha : AJ X Z sp (e :: es) ma A) (hn : nst e = true := by rfl) (hg : Gl X x := by rfl)
    (hpl : (backTo pos (starEach es X.env)).any (·.1) = false := by rfl) (hdb : (x == ("__debug__" : Str)) = false := by decide) : EJ X Z sp (.Call (.Name x fp) (e :: es) [] pos) (ma.bi mf) en := fun F ad σ H Q S hm =>
  call_core am C hj ha hn hg hpl hdb F ad σ H Q S (hm.imp fun r q F' H' v F1 H1 n1 n2 hr => q F' H' v (n1.trans n2) hr)
theorem fj_call {A : ArE X.K γ} {mf : γ → Res (List ρ)} {en : Enc X.K ρ} {ma : Res γ} (am : Amb X Z k) (C : Cal X.prog X.w X.K X.mg X.base x j (spF X.mg A mf (rtN en))) (hj : j ≤ k) (ha : AJ X Z sp (e :: es) ma A) (hn : nst e = true := by rfl) (hg : Gl X x := by rfl)
    (hpl : (backTo pos (starEach es X.env)).any (·.1) = false := by rfl) (hdb : (x == ("__debug__" : Str)) = false := by decide) : FJ X Z sp (.Call (.Name x fp) (e :: es) [] pos) (ma.bi mf) en := fun F ad σ H Q S hm =>
  call_core am C hj ha hn hg hpl hdb F ad σ H Q S (hm.imp fun r q F' H' v F1 H1 n1 n2 ⟨p, vs, e1, h1, h2, h3, hz, h4⟩ => by
    subst e1
    exact q F' H' p vs (n1.trans n2) (n1.hh.free h1) h2 h3 hz h4)

/-! ### what is walked -/
def ItR (K : Frag) (G F1 : Hp) (en : Enc K β) (ys : List β) (J : It) : Prop := ∀ i F' H', Same F1 F' → Same F' H' → Same G H' →
  (∀ y, ys[i]? = some y → J.go i H' ∧ ∀ x H'', J.yld i H' x H'' → ∃ F'', Nx F' H' F'' H'' ∧ en.rep F'' x y) ∧ (ys.length ≤ i → J.stop i H')
def SJ (X : Cx) (Z : Fz) (sp : Spec X.K) (tg it : Expr) (m : Res (List β)) (en : Enc X.K β) : Prop :=
  ∀ (F : Hp) (ad : List Addr) (σ : Sg) (H : Hp) (R : It → Hp → Prop), SOk Z F ad sp σ H → mwp m (fun ys => ∀ F1 H1 J, Nx F H F1 H1 → ys.length ≤ sizeLine → ItR X.K Z.G F1 en ys J → R J H1) Z.Er → wI X tg it σ H R
/-- a list that stays -/
def StL (K : Frag) (G F : Hp) (p : Addr) (vs : List V) : Prop := F p = some (.lst vs) ∨ SqL K G p vs
theorem StL.sq {K : Frag} {G F F' H' : Hp} {p : Addr} {vs : List V} (h : StL K G F p vs) (s : Same F F') (f : Same F' H') (g : Same G H') : SqL K H' p vs := by
  rcases h with h | h
  · exact SqL.of (f _ _ (s _ _ h))
  · exact sqL_mono g h
theorem StL.mono {K : Frag} {G F F' : Hp} {p : Addr} {vs : List V} (h : StL K G F p vs) (s : Same F F') : StL K G F' p vs := h.imp (fun h => s _ _ h) id
def KJ (X : Cx) (Z : Fz) (sp : Spec X.K) (e : Expr) {α : Type} (m : Res (List α)) (en : Enc X.K α) : Prop :=
  ∀ (F : Hp) (ad : List Addr) (σ : Sg) (H : Hp) (Q : VK), SOk Z F ad sp σ H → mwp m (fun xs => ∀ F' H' p vs, Nx F H F' H' → StL X.K Z.G F' p vs → vs.length ≤ sizeLine → Reps en F' vs xs → Q (.ref p) H') Z.Er → wE X e σ H Q
theorem kj_ej {en : Enc X.K α} {m : Res (List α)} (h : EJ X Z sp e m (eL en)) : KJ X Z sp e m en := fun F ad σ H Q S hm =>
  h F ad σ H Q S (hm.imp fun xs q F' H' v n r => by
    obtain ⟨p, vs, rfl, h2, hz, h3⟩ := r
    exact q F' H' p vs n (.inl h2) hz h3)
theorem kj_fj {en : Enc X.K α} {m : Res (List α)} (h : FJ X Z sp e m en) : KJ X Z sp e m en := kj_ej (ej_fj h)
theorem kj_bor {i : Nat} {x : Str} {en : Enc X.K α} {xs : List α} (hs : sp.sl[i]? = some (.bor en xs) := by rfl) (hN : X.N[i]? = some x := by rfl)
    (hv : Vis X.env.scope x := by first | exact Or.inl rfl | exact Or.inr (Or.inl rfl) | exact Or.inr (Or.inr rfl)) (hd : (x == ("__debug__" : Str)) = false := by decide) (hcd : (x == ("__classdict__" : Str)) = false := by decide) :
    KJ X Z sp (.Name x pos) (.ok xs) en := fun F ad σ H Q S h => by
  refine ofE (pe_var (i := i) hN hv hd hcd) ?_
  obtain ⟨o, h1, p, vs, h2, h3, hz, h4⟩ := S.sl i _ hs
  exact ⟨.ref p, by rw [h1, h2], h F H p vs S.refl (.inr h3) hz h4⟩
theorem lj_kj {en : Enc X.K α} {m : Res (List α)} (h : KJ X Z sp e m en) : LJ X Z sp e m en := fun F ad σ H Q S hm =>
  h F ad σ H Q S (hm.imp fun xs q F' H' p vs n h1 hz h2 => q F' H' p vs n (h1.sq (Same.refl _) n.fh (S.gh.trans n.hh)) hz h2)
theorem getElem?_some_of.{u} {τ : Type u} {l : List τ} {i : Nat} {y : τ} (h : l[i]? = some y) : i < l.length := (List.getElem?_eq_some_iff.mp h).1
variable {tg it : Expr}
theorem sj_list {en : Enc X.K α} {m : Res (List α)} (h : KJ X Z sp it m en) : SJ X Z sp tg it m en := fun F ad σ H R S hm => by
  refine ofI (pi_list pe_w) ?_
  refine h F ad σ H _ S (hm.imp fun xs q F1 H1 p vs n1 h1 hz r1 => ?_)
  refine ⟨p, rfl, ⟨vs, h1.sq (Same.refl _) n1.fh (S.gh.trans n1.hh)⟩, q F1 H1 _ n1 (by rw [← r1.length]; exact hz) fun i F' H' s f g => ?_⟩
  have hq := h1.sq s f g
  refine ⟨fun y hy => ?_, fun hl => ⟨vs, hq, by rw [r1.length]; exact hl⟩⟩
  obtain ⟨v, k1, k2⟩ := r1.get hy
  refine ⟨⟨vs, v, hq, k1⟩, fun x H'' yl => ?_⟩
  obtain ⟨rfl, k3⟩ := yl
  have e : v = x := Option.some.inj (k1.symm.trans (k3 vs hq))
  subst e
  exact ⟨F', ⟨Same.refl _, Same.refl _, f, fun _ h => .inl h⟩, en.mono s k2⟩
/-- 0, 1, .. below n -/
def rangeL (lo hi : Int) : List Int := (List.range (hi - lo).toNat).map fun i => lo + (i : Nat)
theorem rangeL_get {lo hi : Int} {i : Nat} {y : Int} (h : (rangeL lo hi)[i]? = some y) : i < (hi - lo).toNat ∧ y = lo + (i : Nat) := by
  unfold rangeL at h
  rw [List.getElem?_map] at h
  by_cases hi' : i < (hi - lo).toNat
  · rw [List.getElem?_range hi'] at h
    exact ⟨hi', (Option.some.inj h).symm⟩
  · rw [List.getElem?_eq_none (by simpa using hi')] at h
    cases h
theorem rangeL_length (lo hi : Int) : (rangeL lo hi).length = (hi - lo).toNat := by simp [rangeL]
theorem itr_ok {K : Frag} {G F1 : Hp} {lo hi : Int} {n : Nat} (hn : n = (hi - lo).toNat) : ItR K G F1 (eI : Enc K Int) (rangeL lo hi) (Itr lo n) := fun i F' H' s f g => by
  refine ⟨fun y hy => ?_, fun hl => ?_⟩
  · obtain ⟨h1, h2⟩ := rangeL_get hy
    refine ⟨by show i < n; omega, fun x H'' yl => ?_⟩
    obtain ⟨rfl, rfl⟩ := yl
    exact ⟨F', ⟨Same.refl _, Same.refl _, f, fun _ h => .inl h⟩, by rw [h2]; rfl⟩
  · rw [rangeL_length] at hl
    show n ≤ i
    omega
def rng1 (j : Int) : Res (List Int) := gd (-(2 ^ 62) ≤ j ∧ j ≤ 16777216) (rangeL 0 j)
def rng2 (i j : Int) : Res (List Int) := gd (-(2 ^ 62) ≤ i ∧ i < 2 ^ 62 ∧ -(2 ^ 62) ≤ j ∧ j < 2 ^ 62 ∧ j - i ≤ 16777216) (rangeL i j)
theorem sj_range1 {m : Res Int} (hm : X.mg "range" = none) (h : EJ X Z sp a m eI) (hg : Gl X "range" := by rfl) (hn : nst a = true := by rfl) : SJ X Z sp tg (.Call (.Name "range" fp) [a] [] pos) (m.bi rng1) eI := fun F ad σ H R S hq => by
  refine ofI (pi_range1 hg hm (pa_cons pe_w pa_nil (star_cons hn)) (star_cons hn)) ?_
  refine h F ad σ H _ S (hq.bi.imp fun j q F1 H1 v n1 r1 => ?_)
  obtain ⟨⟨c1, c2⟩, q⟩ := q.gd
  have r1 : v = .int j := r1
  subst r1
  refine ⟨j, rfl, c1, by omega, q F1 H1 _ n1 ?_ (itr_ok (by omega))⟩
  rw [rangeL_length, sizeLine_eq]
  omega
theorem sj_range2 {ma mb : Res Int} (hm : X.mg "range" = none) (ha : EJ X Z sp a ma eI) (hb : EJ X Z sp b mb eI) (hg : Gl X "range" := by rfl) (hn : nst a = true := by rfl) (hn2 : nst b = true := by rfl) : SJ X Z sp tg (.Call (.Name "range" fp) [a, b] [] pos) (ma.bi fun i => mb.bi fun j => rng2 i j) eI := fun F ad σ H R S hq => by
  refine ofI (pi_range2 hg hm (pa_cons pe_w (pa_cons pe_w pa_nil (star_cons hn2)) (star_cons hn)) (by rw [star_cons hn, star_cons hn2]; rfl) (by rw [star_cons hn2]; rfl)) ?_
  refine ha F ad σ H _ S (hq.bi.imp fun i q F1 H1 v n1 r1 => ?_)
  refine hb F1 ad σ H1 _ (S.nx n1) (q.bi.imp fun j q F2 H2 u n2 r2 => ?_)
  obtain ⟨⟨c1, c2, c3, c4, c5⟩, q⟩ := q.gd
  have r1 : v = .int i := r1
  have r2 : u = .int j := r2
  subst r1 r2
  refine ⟨i, j, rfl, ⟨c1, c2, c3, c4⟩, q F2 H2 _ (n1.trans n2) ?_ (itr_ok rfl)⟩
  rw [rangeL_length, sizeLine_eq]
  omega
theorem sj_range1_p {n : Int} (hm : X.mg "range" = none) (h : EJ X Z sp a (.ok n) eI) (hg : Gl X "range" := by rfl) (hn : nst a = true := by rfl) : SJ X Z sp tg (.Call (.Name "range" fp) [a] [] pos) (rng1 n) eI := sj_range1 hm h hg hn
theorem sj_range2_p {n m : Int} (hm : X.mg "range" = none) (ha : EJ X Z sp a (.ok n) eI) (hb : EJ X Z sp b (.ok m) eI) (hg : Gl X "range" := by rfl) (hn : nst a = true := by rfl) (hn2 : nst b = true := by rfl) : SJ X Z sp tg (.Call (.Name "range" fp) [a, b] [] pos) (rng2 n m) eI := sj_range2 hm ha hb hg hn hn2
variable {elts : List Expr} {kk : Nat} {tpos : Pos}
theorem sj_zip {ea : Enc X.K α} {eb : Enc X.K β} {ma : Res (List α)} {mb : Res (List β)} (hm : X.mg "zip" = none) (ha : KJ X Z sp a ma ea) (hb : KJ X Z sp b mb eb) (hg : Gl X "zip" := by rfl) (hn : nst a = true := by rfl) (hn2 : nst b = true := by rfl) :
    SJ X Z sp (.Tuple elts kk tpos) (.Call (.Name "zip" fp) [a, b] [] pos) (ma.bi fun xs => mb.bi fun ys => .ok (xs.zip ys)) (eT (vsC ea (vs1 eb))) := fun F ad σ H R S hq => by
  refine ofI (pi_zip hg hm (pa_cons pe_w (pa_cons pe_w pa_nil (star_cons hn2)) (star_cons hn)) (star_cons hn) (by rw [star_cons hn2]; rfl)) ?_
  refine ha F ad σ H _ S (hq.bi.imp fun xs q F1 H1 p vs n1 h1 hz r1 => ?_)
  refine hb F1 ad σ H1 _ (S.nx n1) (q.bi.imp fun ys q F2 H2 p2 ws n2 h2 hz2 r2 => ?_)
  have n := n1.trans n2
  have h1 := h1.mono n2.ff
  have r1 := r1.mono n2.ff
  have g2 := S.gh.trans n.hh
  refine ⟨p, p2, vs, ws, rfl, h1.sq (Same.refl _) n.fh g2, h2.sq (Same.refl _) n.fh g2, q F2 H2 _ n ?_ fun i F' H' s f g => ?_⟩
  · rw [List.length_zip, ← r1.length]
    exact Nat.le_trans (Nat.min_le_left _ _) hz
  · have k1 := h1.sq s f g
    have k2 := h2.sq s f g
    refine ⟨fun y hy => ?_, fun hl => ⟨vs, ws, k1, k2, ?_⟩⟩
    · rw [List.getElem?_zip_eq_some] at hy
      obtain ⟨v1, g1, g2⟩ := r1.get hy.1
      obtain ⟨v2, g3, g4⟩ := r2.get hy.2
      refine ⟨⟨vs, ws, v1, v2, k1, k2, g1, g3⟩, fun x H'' yl => ?_⟩
      obtain ⟨T, x1, x2, rfl, hT, rfl, e1, e2⟩ := yl
      have q1 : v1 = x1 := Option.some.inj (g1.symm.trans (e1 _ k1))
      have q2 : v2 = x2 := Option.some.inj (g3.symm.trans (e2 _ k2))
      subst q1 q2
      have nn : Nx F' H' F' H' := ⟨Same.refl _, Same.refl _, f, fun _ h => .inl h⟩
      have hF : F' T = none := f.free hT
      refine ⟨upd F' T (.tup [v1, v2]), (nn.new hT).fix hT hF upd_same, T, [v1, v2], rfl, upd_same, v1, [v2], rfl, ea.mono (s.trans (same_upd hF)) g2, v2, rfl, eb.mono (s.trans (same_upd hF)) g4⟩
    · rw [List.length_zip] at hl
      rw [r1.length, r2.length]
      omega
/-- each item with its place -/
def enumL (xs : List α) : List (Int × α) := xs.zipIdx.map fun p => ((p.2 : Nat), p.1)
theorem enumL_get {xs : List α} {i : Nat} {y : Int × α} (h : (enumL xs)[i]? = some y) : y.1 = (i : Nat) ∧ xs[i]? = some y.2 := by
  unfold enumL at h
  rw [List.getElem?_map, List.getElem?_zipIdx] at h
  cases e : xs[i]? with
  | none => rw [e] at h; cases h
  | some x =>
    rw [e] at h
    have q : (((0 + i : Nat) : Int), x) = y := Option.some.inj h
    subst q
    exact ⟨by simp, rfl⟩
theorem enumL_length (xs : List α) : (enumL xs).length = xs.length := by simp [enumL]
theorem sj_enum {ea : Enc X.K α} {ma : Res (List α)} (hm : X.mg "enumerate" = none) (ha : KJ X Z sp a ma ea) (hg : Gl X "enumerate" := by rfl) (hn : nst a = true := by rfl) :
    SJ X Z sp (.Tuple elts kk tpos) (.Call (.Name "enumerate" fp) [a] [] pos) (ma.bi fun xs => .ok (enumL xs)) (eT (vsC eI (vs1 ea))) := fun F ad σ H R S hq => by
  refine ofI (pi_enum hg hm (pa_cons pe_w pa_nil (star_cons hn)) (star_cons hn)) ?_
  refine ha F ad σ H _ S (hq.bi.imp fun xs q F1 H1 p vs n1 h1 hz r1 => ?_)
  have g2 := S.gh.trans n1.hh
  refine ⟨p, vs, rfl, h1.sq (Same.refl _) n1.fh g2, q F1 H1 _ n1 ?_ fun i F' H' s f g => ?_⟩
  · rw [enumL_length, ← r1.length]
    exact hz
  · have k1 := h1.sq s f g
    refine ⟨fun y hy => ?_, fun hl => ⟨vs, k1, ?_⟩⟩
    · obtain ⟨y1, y2⟩ := enumL_get hy
      obtain ⟨v1, g1, g2⟩ := r1.get y2
      refine ⟨⟨vs, v1, k1, g1⟩, fun x H'' yl => ?_⟩
      obtain ⟨T, x1, rfl, hT, rfl, e1⟩ := yl
      have q1 : v1 = x1 := Option.some.inj (g1.symm.trans (e1 _ k1))
      subst q1
      have nn : Nx F' H' F' H' := ⟨Same.refl _, Same.refl _, f, fun _ h => .inl h⟩
      have hF : F' T = none := f.free hT
      refine ⟨upd F' T (.tup [.int (i : Nat), v1]), (nn.new hT).fix hT hF upd_same, T, [.int (i : Nat), v1], rfl, upd_same, .int (i : Nat), [v1], rfl, by rw [y1]; rfl, v1, rfl, ea.mono (s.trans (same_upd hF)) g2⟩
    · rw [enumL_length] at hl
      rw [r1.length]
      exact hl
theorem sj_zip_p {ea : Enc X.K α} {eb : Enc X.K β} {xs : List α} {ys : List β} (hm : X.mg "zip" = none) (ha : KJ X Z sp a (.ok xs) ea) (hb : KJ X Z sp b (.ok ys) eb) (hg : Gl X "zip" := by rfl) (hn : nst a = true := by rfl) (hn2 : nst b = true := by rfl) :
    SJ X Z sp (.Tuple elts kk tpos) (.Call (.Name "zip" fp) [a, b] [] pos) (.ok (xs.zip ys)) (eT (vsC ea (vs1 eb))) := sj_zip hm ha hb hg hn hn2
theorem sj_enum_p {ea : Enc X.K α} {xs : List α} (hm : X.mg "enumerate" = none) (ha : KJ X Z sp a (.ok xs) ea) (hg : Gl X "enumerate" := by rfl) (hn : nst a = true := by rfl) :
    SJ X Z sp (.Tuple elts kk tpos) (.Call (.Name "enumerate" fp) [a] [] pos) (.ok (enumL xs)) (eT (vsC eI (vs1 ea))) := sj_enum hm ha hg hn

/-! ### where it goes -/
/-- a target: the value of a kind goes into the slots is -/
def GJ (X : Cx) (tg : Expr) (en : Enc X.K β) (is : List Nat) (bd : β → List (Sl X.K) → List (Sl X.K)) : Prop :=
  ∀ (Z : Fz) (F : Hp) (ad : List Addr) (sp : Spec X.K) (σ : Sg) (H : Hp) (x : V) (y : β) (Q : Sg → Hp → Prop), SOk Z F ad sp σ H → en.rep F x y →
    (∀ σ', SOk Z F ad ⟨bd y sp.sl, sp.ob⟩ σ' H → σ'.length = σ.length → (∀ i, i ∉ is → σ'[i]? = σ[i]?) → Q σ' H) → wG X tg x σ H Q
def GsJ (X : Cx) (ts : List Expr) (r : VsE X.K γ) (is : List Nat) (bd : γ → List (Sl X.K) → List (Sl X.K)) : Prop :=
  ∃ t : TGs, PGs X ts t ∧ ∀ (Z : Fz) (F : Hp) (ad : List Addr) (sp : Spec X.K) (σ : Sg) (H : Hp) (vs : List V) (g : γ) (Q : Sg → Hp → Prop), SOk Z F ad sp σ H → r.rep F vs g →
    (∀ σ', SOk Z F ad ⟨bd g sp.sl, sp.ob⟩ σ' H → σ'.length = σ.length → (∀ i, i ∉ is → σ'[i]? = σ[i]?) → Q σ' H) → t vs σ H Q
theorem SOk.set {F H : Hp} {ad : List Addr} {σ : Sg} {i : Nat} {s : Sl X.K} {v : V} (S : SOk Z F ad sp σ H) (h : slOk Z.G F ad s (some v)) : SOk Z F ad ⟨sp.sl.set i s, sp.ob⟩ (σ.set i (some v)) H := by
  refine ⟨S.f0, S.fh, S.gh, S.fg, S.nd, S.st, by simp [S.len], fun j t e => ?_, S.olen, S.ob, S.lf⟩
  by_cases hj : j = i
  · subst hj
    have hl : j < sp.sl.length := by
      have := getElem?_some_of e
      simpa using this
    have e : (sp.sl.set j s)[j]? = some t := e
    rw [List.getElem?_set_self hl] at e
    cases e
    exact ⟨some v, by rw [List.getElem?_set_self (by rw [← S.len]; exact hl)], h⟩
  · have e : (sp.sl.set i s)[j]? = some t := e
    rw [List.getElem?_set_ne (Ne.symm hj)] at e
    obtain ⟨o, h1, h2⟩ := S.sl j t e
    exact ⟨o, by rw [List.getElem?_set_ne (Ne.symm hj)]; exact h1, h2⟩
theorem gj_name {i : Nat} {x : Str} {en : Enc X.K β} (hN : X.N.Nodup) (hi : X.N[i]? = some x := by rfl) (hx : Loc X.env.scope x := by first | exact Or.inl rfl | exact Or.inr rfl)
    (hf : X.fn x = true ∨ X.env.scope.names.lookup x = some .local := by first | exact .inl rfl | exact .inr rfl) : GJ X (.Name x pos) en [i] (fun y sl => sl.set i (.val en y)) := fun Z F ad sp σ H v y Q S r q =>
  ofG (pg_name hN hi hx hf) (q _ (S.set ⟨v, rfl, r⟩) (by simp) fun j hj => by
    rw [List.getElem?_set_ne (by intro e; exact hj (by simp [e]))])
theorem gsj_one {tg : Expr} {en : Enc X.K β} {is : List Nat} {bd : β → List (Sl X.K) → List (Sl X.K)} (h : GJ X tg en is bd) (hs : (assignEach [tg] X.env).map (·.2) = [assign tg X.env] := by rfl) : GsJ X [tg] (vs1 en) is bd :=
  ⟨gCons (wG X tg) gNil, pgs_cons pg_w pgs_nil hs, fun Z F ad sp σ H vs g Q S r q => by
    obtain ⟨v, rfl, r⟩ := r
    exact ⟨v, [], rfl, h Z F ad sp σ H v g _ S r fun σ' S' h1 h2 => ⟨rfl, q σ' S' h1 h2⟩⟩⟩
theorem gsj_cons {tg : Expr} {ts : List Expr} {en : Enc X.K β} {r : VsE X.K γ} {is js : List Nat} {bd : β → List (Sl X.K) → List (Sl X.K)} {bd' : γ → List (Sl X.K) → List (Sl X.K)} (h : GJ X tg en is bd) (h2 : GsJ X ts r js bd')
    (hs : (assignEach (tg :: ts) X.env).map (·.2) = assign tg X.env :: (assignEach ts X.env).map (·.2) := by rfl) : GsJ X (tg :: ts) (vsC en r) (is ++ js) (fun g sl => bd' g.2 (bd g.1 sl)) := by
  obtain ⟨t, pt, ht⟩ := h2
  refine ⟨gCons (wG X tg) t, pgs_cons pg_w pt hs, fun Z F ad sp σ H vs g Q S rr q => ?_⟩
  obtain ⟨v, ws, rfl, r1, r2⟩ := rr
  refine ⟨v, ws, rfl, h Z F ad sp σ H v g.1 _ S r1 fun σ' S' k1 k2 => ?_⟩
  refine ht Z F ad _ σ' H ws g.2 Q S' r2 fun σ2 S2 k3 k4 => q σ2 S2 (k3.trans k1) fun i hi => ?_
  rw [k4 i fun z => hi (List.mem_append_right _ z), k2 i fun z => hi (List.mem_append_left _ z)]
theorem gj_tup {ts : List Expr} {n : Nat} {r : VsE X.K γ} {is : List Nat} {bd : γ → List (Sl X.K) → List (Sl X.K)} (hc : X.calm = true) (h : GsJ X ts r is bd) (hlen : ∀ F vs g, r.rep F vs g → vs.length = n) (hn : (assignEach ts X.env).length = n := by rfl) (hst : (assignEach ts X.env).findIdx? (·.1) = none := by rfl) :
    GJ X (.Tuple ts kk tpos) (eT r) is bd := fun Z F ad sp σ H x g Q S rr q => by
  obtain ⟨t, pt, ht⟩ := h
  refine ofG (pg_tup (n := n) hc pt hn hst) ?_
  obtain ⟨p, vs, rfl, h1, h2⟩ := rr
  exact ⟨p, vs, rfl, SqT.of (S.fh _ _ h1), hlen F vs g h2, ht Z F ad sp σ H vs g Q S h2 q⟩
theorem len1 {K : Frag} {e : Enc K α} : ∀ F vs g, (vs1 e).rep F vs g → vs.length = 1 := fun F vs g ⟨v, h, _⟩ => by rw [h]; rfl
theorem lenC {K : Frag} {e : Enc K α} {r : VsE K γ} {n : Nat} (h : ∀ F vs g, r.rep F vs g → vs.length = n) : ∀ F vs g, (vsC e r).rep F vs g → vs.length = n + 1 := fun F vs g ⟨v, ws, e, _, h2⟩ => by rw [e, List.length_cons, h F ws g.2 h2]
end
end Wk

set_option Elab.async false
set_option linter.all false
set_option maxRecDepth 100000
set_option maxHeartbeats 4000000
namespace Wk
open PySem PySem.Spec PyProof.Rows L2
section
variable {X : Cx} {Z : Fz} {sp : Spec X.K} {a b c e : Expr} {es : List Expr} {pos p p2 fp : Pos} {α β γ ρ : Type} {k j : Nat} {x : Str} {F F' H H' : Hp} {ad : List Addr} {σ : Sg} {t : Option Addr}
/-! ### the state, on its way -/
theorem SOk.er {Er : Str → Prop} (S : SOk Z F ad sp σ H) : SOk { Z with Er := Er } F ad sp σ H := ⟨S.f0, S.fh, S.gh, S.fg, S.nd, S.st, S.len, S.sl, S.olen, S.ob, S.lf⟩
theorem SOk.rer {Er : Str → Prop} (S : SOk { Z with Er := Er } F ad sp σ H) : SOk Z F ad sp σ H := ⟨S.f0, S.fh, S.gh, S.fg, S.nd, S.st, S.len, S.sl, S.olen, S.ob, S.lf⟩
theorem slOk.push {K : Frag} {G F : Hp} {ad : List Addr} {s : Sl K} {o : Option V} (q : Addr) (h : slOk G F ad s o) : slOk G F (ad ++ [q]) s o := by
  cases s with
  | any => trivial
  | val e a => exact h
  | bor e xs => exact h
  | own k =>
    obtain ⟨p, h1, h2⟩ := h
    exact ⟨p, by rw [List.getElem?_append_left (getElem?_some_of h1)]; exact h1, h2⟩
/-- a new list of ours -/
theorem SOk.push {en : Enc X.K α} {xs : List α} {q : Addr} {vs : List V} (S : SOk Z F ad sp σ H) (n : Nx F H F' H') (hq : H q = none) (hF : F' q = none) (hH : H' q = some (.lst vs)) (hz : vs.length ≤ sizeLine) (r : Reps en F' vs xs) : SOk Z F' (ad ++ [q]) ⟨sp.sl, sp.ob ++ [.lst none en xs]⟩ σ H' := by
  have S' := S.nx n
  have hn : q ∉ ad := fun z => S.st q z hq
  refine ⟨S'.f0, S'.fh, S'.gh, S'.fg, ?_, fun a ha => ?_, S'.len, fun i s h => ?_, ?_, fun k o h => ?_, S.lf.push n hq S.olen fun _ _ _ _ z => nomatch z⟩
  · rw [List.nodup_append]
    exact ⟨S.nd, by simp, fun a ha b hb e => hn (by simp at hb; rw [← hb, ← e]; exact ha)⟩
  · rcases List.mem_append.mp ha with ha | ha
    · exact S'.st a ha
    · simp at ha
      rw [ha, hH]
      exact fun z => nomatch z
  · obtain ⟨o, h1, h2⟩ := S'.sl i s h
    exact ⟨o, h1, h2.push q⟩
  · simp [S.olen]
  · by_cases hk : k < sp.ob.length
    · have h : (sp.ob ++ [.lst none en xs])[k]? = some o := h
      rw [List.getElem?_append_left hk] at h
      obtain ⟨p, h1, h2⟩ := S'.ob k o h
      exact ⟨p, by rw [List.getElem?_append_left (getElem?_some_of h1)]; exact h1, h2⟩
    · have h : (sp.ob ++ [.lst none en xs])[k]? = some o := h
      have hl := getElem?_some_of h
      have e : k = sp.ob.length := by simp at hl; omega
      subst e
      simp at h
      subst h
      refine ⟨q, by rw [S.olen]; simp, vs, hH, hz, r, hF, ?_, fun q z => nomatch z⟩
      exact S.gh.free hq
/-- a list of ours is changed -/
theorem SOk.upd {en : Enc X.K α} {xs : List α} {vs : List V} {q : Addr} {i : Nat} (S : SOk Z F ad sp σ H) (hk : ad[i]? = some q) (ht : ∀ q', t = some q' → q = q') (hq : ∃ us, H q = some (.lst us)) (hF : F q = none) (hG : Z.G q = none) (hz : vs.length ≤ sizeLine) (r : Reps en F vs xs) : SOk Z F ad ⟨sp.sl, sp.ob.set i (.lst t en xs)⟩ σ (upd H q (.lst vs)) := by
  obtain ⟨us, hus⟩ := hq
  refine ⟨S.f0, fun b o h => ?_, fun b o h => ?_, S.fg, S.nd, fun a ha z => ?_, S.len, S.sl, by simp [S.olen], fun k o h => ?_, S.lf.set hk S.nd (Same.refl _) (fun _ _ z => z) (fun a ha => upd_ne ha) fun _ _ _ _ z => nomatch z⟩
  · rw [upd_ne (ne_of_none h hF)]
    exact S.fh b o h
  · rw [upd_ne (ne_of_none h hG)]
    exact S.gh b o h
  · by_cases e : a = q
    · subst e
      rw [upd_same] at z
      cases z
    · rw [upd_ne e] at z
      exact S.st a ha z
  · have h : (sp.ob.set i (.lst t en xs))[k]? = some o := h
    by_cases e : k = i
    · subst e
      have hl := getElem?_some_of h
      rw [List.getElem?_set_self (by simpa using hl)] at h
      cases h
      exact ⟨q, hk, vs, upd_same, hz, r, hF, hG, ht⟩
    · rw [List.getElem?_set_ne (Ne.symm e)] at h
      obtain ⟨p, h1, h2⟩ := S.ob k o h
      refine ⟨p, h1, ?_⟩
      have hp : p ≠ q := fun z => by
        subst z
        have l1 := getElem?_some_of h1
        have l2 := getElem?_some_of hk
        rw [List.getElem?_eq_getElem l1] at h1
        rw [List.getElem?_eq_getElem l2] at hk
        exact e ((List.getElem_inj S.nd).mp ((Option.some.inj h1).trans (Option.some.inj hk).symm))
      cases o with
      | dead => trivial
      | pk t' e' ys => trivial
      | gen t' e' ys =>
        obtain ⟨ws, g1, g2⟩ := h2
        exact ⟨ws, by rw [upd_ne hp]; exact g1, g2⟩
      | lst t' e' ys =>
        obtain ⟨ws, g1, g2⟩ := h2
        exact ⟨ws, by rw [upd_ne hp]; exact g1, g2⟩
/-- one's own list, at a name -/
theorem SOk.own {en : Enc X.K α} {xs : List α} {i k : Nat} (S : SOk Z F ad sp σ H) (hs : sp.sl[i]? = some (.own k)) (ho : sp.ob[k]? = some (.lst t en xs)) : ∃ q vs, σ[i]? = some (some (.ref q)) ∧ ad[k]? = some q ∧ H q = some (.lst vs) ∧ vs.length ≤ sizeLine ∧ Reps en F vs xs ∧ F q = none ∧ Z.G q = none ∧ ∀ q', t = some q' → q = q' := by
  obtain ⟨o, h1, q, h2, h3⟩ := S.sl i _ hs
  obtain ⟨q', h4, vs, h5, hz, h6, h7, h8⟩ := S.ob k _ ho
  rw [h2] at h4
  have e : q = q' := Option.some.inj h4
  subst e
  exact ⟨q, vs, by rw [h1, h3], h2, h5, hz, h6, h7, h8⟩

/-! ### blocks -/
def BJ (X : Cx) (Z : Fz) {ρ : Type} (Qr : ρ → Prop) (D : Ends) (sp : Spec X.K) (st : List Stmt) (m : Res ρ) : Prop :=
  ∀ (F : Hp) (ad : List Addr) (σ : Sg) (H : Hp), SOk Z F ad sp σ H → mwp m Qr Z.Er → wB X st D σ H
/-- what holds at a place from where it goes on as k says -/
def NX (X : Cx) (Z : Fz) {ρ S : Type} (Qr : ρ → Prop) (nxt : Sg → Hp → Prop) (sps : S → Spec X.K) (k : S → Res ρ) : Prop :=
  ∀ (s : S) (F : Hp) (ad : List Addr) (σ : Sg) (H : Hp), SOk Z F ad (sps s) σ H → mwp (k s) Qr Z.Er → nxt σ H
variable {Qr : ρ → Prop} {D : Ends} {st : Stmt} {rest body : List Stmt} {m : Res ρ} {S : Type}
theorem seq (h : wS X st { D with nx := wB X rest D } σ H) : wB X (st :: rest) D σ H := ofB (pss_cons ps_w pb_w) h
theorem bj_nil {sps : S → Spec X.K} {kk : S → Res ρ} (hn : NX X Z Qr D.nx sps kk) (s : S) : BJ X Z Qr D (sps s) [] (kk s) := fun F ad σ H S' hm => ofB pss_nil (hn s F ad σ H S' hm)
theorem bj_cont {sps : S → Spec X.K} {kk : S → Res ρ} (hn : NX X Z Qr D.ct sps kk) (s : S) : BJ X Z Qr D (sps s) (.Continue pos :: rest) (kk s) := fun F ad σ H S' hm => seq (ofS ps_continue (hn s F ad σ H S' hm))
theorem bj_brk {sps : S → Spec X.K} {kk : S → Res ρ} (hn : NX X Z Qr D.bk sps kk) (s : S) : BJ X Z Qr D (sps s) (.Break pos :: rest) (kk s) := fun F ad σ H S' hm => seq (ofS ps_break (hn s F ad σ H S' hm))
theorem bj_pass (h : BJ X Z Qr D sp rest m) : BJ X Z Qr D sp (.Pass pos :: rest) m := fun F ad σ H S hm => seq (ofS ps_pass (h F ad σ H S hm))
theorem bj_doc {z : Str} {jj : Nat} (h : BJ X Z Qr D sp rest m) : BJ X Z Qr D sp (.Expr (.Constant (.str z) jj p) pos :: rest) m := fun F ad σ H S hm => seq (ofS ps_doc (h F ad σ H S hm))
/-- forgetting -/
structure Le {K : Frag} (sp sp' : Spec K) (ks : List Nat) : Prop where
  go : ∀ (Z : Fz) (F : Hp) (ad : List Addr) (σ : Sg) (H : Hp), SOk Z F ad sp σ H → ∃ ad', SOk Z F ad' sp' σ H
theorem bj_weak {sp' : Spec X.K} {ks : List Nat} (le : Le sp sp' ks) (h : BJ X Z Qr D sp' body m) : BJ X Z Qr D sp body m := fun F ad σ H S hm => by
  obtain ⟨ad', S'⟩ := le.go Z F ad σ H S
  exact h F ad' σ H S' hm
inductive LeS {K : Frag} (ks : List Nat) : Sl K → Sl K → Prop
  | any {s : Sl K} : LeS ks s .any
  | val {α : Type} {e : Enc K α} {a : α} : LeS ks (.val e a) (.val e a)
  | bor {α : Type} {e : Enc K α} {a : List α} : LeS ks (.bor e a) (.bor e a)
  | own {k k' : Nat} (h : ks[k']? = some k) : LeS ks (.own k) (.own k')
inductive LeSs {K : Frag} (ks : List Nat) : List (Sl K) → List (Sl K) → Prop
  | nil : LeSs ks [] []
  | cons {s s' : Sl K} {l l' : List (Sl K)} : LeS ks s s' → LeSs ks l l' → LeSs ks (s :: l) (s' :: l')
theorem LeSs.len {K : Frag} {ks : List Nat} : ∀ {l l' : List (Sl K)}, LeSs ks l l' → l.length = l'.length
  | _, _, .nil => rfl
  | _, _, .cons _ t => by rw [List.length_cons, List.length_cons, LeSs.len t]
theorem LeSs.get {K : Frag} {ks : List Nat} : ∀ {l l' : List (Sl K)} {i : Nat} {s' : Sl K}, LeSs ks l l' → l'[i]? = some s' → ∃ s, l[i]? = some s ∧ LeS ks s s'
  | _, _, _, _, .nil, h => by simp at h
  | _, _, 0, _, .cons r _, h => by
    simp at h; subst h; exact ⟨_, rfl, r⟩
  | _, _, i + 1, _, .cons _ t, h => by
    obtain ⟨s, h1, h2⟩ := LeSs.get (i := i) t (by simpa using h)
    exact ⟨s, by simpa using h1, h2⟩
/-- the objects kept: the ks -/
inductive LeO {K : Frag} (ob : List (Ob K)) : List Nat → List (Ob K) → Prop
  | nil : LeO ob [] []
  | keep {k : Nat} {ks : List Nat} {o : Ob K} {os : List (Ob K)} (h : ob[k]? = some o) : LeO ob ks os → LeO ob (k :: ks) (o :: os)
theorem LeO.len {K : Frag} {ob : List (Ob K)} : ∀ {ks : List Nat} {os : List (Ob K)}, LeO ob ks os → ks.length = os.length
  | _, _, .nil => rfl
  | _, _, .keep _ t => by rw [List.length_cons, List.length_cons, LeO.len t]
theorem LeO.get {K : Frag} {ob : List (Ob K)} : ∀ {ks : List Nat} {os : List (Ob K)} {i : Nat} {o : Ob K}, LeO ob ks os → os[i]? = some o → ∃ k, ks[i]? = some k ∧ ob[k]? = some o
  | _, _, _, _, .nil, h => by simp at h
  | _, _, 0, _, .keep r _, h => by
    simp at h; subst h; exact ⟨_, rfl, r⟩
  | _, _, i + 1, _, .keep _ t, h => by
    obtain ⟨s, h1, h2⟩ := LeO.get (i := i) t (by simpa using h)
    exact ⟨s, by simpa using h1, h2⟩
theorem LeO.lt {K : Frag} {ob : List (Ob K)} {ks : List Nat} {os : List (Ob K)} (h : LeO ob ks os) {k : Nat} (hk : k ∈ ks) : k < ob.length := by
  induction h with
  | nil => cases hk
  | keep r t ih =>
    rcases List.mem_cons.mp hk with e | hk
    · rw [e]; exact getElem?_some_of r
    · exact ih hk
theorem Lf.sub {K : Frag} {G F H : Hp} {ad : List Addr} {ob os : List (Ob K)} {ks : List Nat} (hn : ks.Nodup) (hl : ob.length = ad.length) (ho : LeO ob ks os) (h : Lf G F H ad ob) : Lf G F H (ks.map fun k => ad.getD k 0) os := by
  obtain ⟨L, h⟩ := h
  have hk : ∀ k ∈ ks, k < ad.length := fun k hk => by rw [← hl]; exact ho.lt hk
  have hg : ∀ k, k < ad.length → ad[k]? = some (ad.getD k 0) := fun k hk => by
    rw [List.getD_eq_getElem?_getD, List.getElem?_eq_getElem hk]
    rfl
  let L' : Nat → List Addr := fun i => match ks[i]? with
    | some k => L k
    | none => []
  have hL : ∀ {i q}, q ∈ L' i → ∃ k, ks[i]? = some k ∧ q ∈ L k := fun {i q} hq => by
    have hq : q ∈ (match ks[i]? with
      | some k => L k
      | none => []) := hq
    cases e : ks[i]? with
    | none => rw [e] at hq; cases hq
    | some k => rw [e] at hq; exact ⟨k, rfl, hq⟩
  refine ⟨L', fun i q hq => ?_, fun i q hq i' hq' => ?_, fun i => ?_, fun i α t e xss hi => ?_⟩
  · obtain ⟨k, e, hq⟩ := hL hq
    obtain ⟨a, b⟩ := h.di k q hq
    refine ⟨fun z => a ?_, b⟩
    obtain ⟨k', h3, rfl⟩ := List.mem_map.mp z
    exact List.mem_of_getElem? (hg k' (hk k' h3))
  · obtain ⟨k, e, hq⟩ := hL hq
    obtain ⟨k', e', hq'⟩ := hL hq'
    have ek := h.un k q hq k' hq'
    subst ek
    have l1 := getElem?_some_of e
    have l2 := getElem?_some_of e'
    rw [List.getElem?_eq_getElem l1] at e
    rw [List.getElem?_eq_getElem l2] at e'
    exact (List.getElem_inj hn).mp ((Option.some.inj e').trans (Option.some.inj e).symm)
  · show (match ks[i]? with
      | some k => L k
      | none => []).Nodup
    split
    · exact h.nd _
    · exact List.nodup_nil
  · obtain ⟨k, e, hob⟩ := ho.get hi
    obtain ⟨p, hp, r⟩ := h.ok k α t _ xss hob
    refine ⟨p, ?_, ?_⟩
    · rw [List.getElem?_map, e, ← hp, hg k (hk k (List.mem_of_getElem? e))]
      rfl
    · show pkOk G F H t _ (match ks[i]? with
        | some k => L k
        | none => []) xss p
      rw [e]
      exact r
theorem le_mk {K : Frag} {sp sp' : Spec K} {ks : List Nat} (h1 : LeSs ks sp.sl sp'.sl) (h2 : LeO sp.ob ks sp'.ob) (hn : ks.Nodup := by decide) : Le sp sp' ks := ⟨fun Z F ad σ H S => by
  have hk : ∀ k ∈ ks, k < ad.length := fun k hk => by rw [← S.olen]; exact h2.lt hk
  have hg : ∀ {i k : Nat}, ks[i]? = some k → (ks.map fun k => ad.getD k 0)[i]? = ad[k]? := fun {i k} h => by
    rw [List.getElem?_map, h]
    have := hk k (List.mem_of_getElem? h)
    show some (ad.getD k 0) = ad[k]?
    rw [List.getD_eq_getElem?_getD, List.getElem?_eq_getElem this]
    rfl
  refine ⟨ks.map fun k => ad.getD k 0, S.f0, S.fh, S.gh, S.fg, ?_, fun a ha => ?_, by rw [← h1.len]; exact S.len, fun i s' h => ?_, by rw [List.length_map, h2.len], fun i o h => ?_, S.lf.sub hn S.olen h2⟩
  · refine List.pairwise_iff_getElem.mpr fun i j hi hj hij e => ?_
    simp only [List.length_map] at hi hj
    simp only [List.getElem_map] at e
    have l1 := hk _ (List.getElem_mem hi)
    have l2 := hk _ (List.getElem_mem hj)
    rw [List.getD_eq_getElem?_getD, List.getD_eq_getElem?_getD, List.getElem?_eq_getElem l1, List.getElem?_eq_getElem l2] at e
    have e2 : ks[i] = ks[j] := (List.getElem_inj S.nd).mp e
    exact absurd ((List.getElem_inj hn).mp e2) (Nat.ne_of_lt hij)
  · obtain ⟨k, h3, rfl⟩ := List.mem_map.mp ha
    have l1 := hk k h3
    rw [List.getD_eq_getElem?_getD, List.getElem?_eq_getElem l1]
    exact S.st _ (List.getElem_mem l1)
  · obtain ⟨s, g1, g2⟩ := h1.get h
    obtain ⟨o, g3, g4⟩ := S.sl i s g1
    refine ⟨o, g3, ?_⟩
    cases g2 with
    | any => trivial
    | val => exact g4
    | bor => exact g4
    | own h5 =>
      obtain ⟨p, g5, g6⟩ := g4
      exact ⟨p, by rw [hg h5]; exact g5, g6⟩
  · obtain ⟨k, g1, g2⟩ := h2.get h
    obtain ⟨p, g3, g4⟩ := S.ob k o g2
    exact ⟨p, by rw [hg g1]; exact g3, g4⟩⟩
/-! ### return -/
/-- what a return hands back is what is wanted -/
def RT (Z : Fz) {ρ : Type} (R : RtE ρ) (Qr : ρ → Prop) (rt : VK) : Prop := ∀ (r : ρ) (F' H' : Hp) (v : V), Same Z.F0 F' → Same F' H' → Same Z.G H' → (∀ a, F' a ≠ none → Z.F0 a ≠ none ∨ Z.G a = none) → R Z.G F' H' v r → Qr r → rt v H'
theorem bj_ret {en : Enc X.K ρ} (hR : RT Z (rtV en) Qr D.rt) (h : EJ X Z sp e m en) : BJ X Z Qr D sp (.Return (some e) pos :: rest) m := fun F ad σ H S hm => by
  refine seq (ofS (ps_ret pe_w) ?_)
  refine h F ad σ H _ S (hm.imp fun r q F' H' v n hr => ?_)
  have S' := S.nx n
  exact hR r F' H' v S'.f0 S'.fh S'.gh S'.fg hr q
theorem bj_retN {Qr' : Unit → Prop} (hR : RT Z (rtV (eU : Enc X.K Unit)) Qr' D.rt) : BJ X Z Qr' D sp (.Return none pos :: rest) (.ok ()) := fun F ad σ H S hm => by
  refine seq (ofS ps_retN ?_)
  exact hR () F H .non S.f0 S.fh S.gh S.fg rfl hm
theorem bj_retF {en : Enc X.K α} {Qr : List α → Prop} {m : Res (List α)} (hR : RT Z (rtN en) Qr D.rt) (h : FJ X Z sp e m en) : BJ X Z Qr D sp (.Return (some e) pos :: rest) m := fun F ad σ H S hm => by
  refine seq (ofS (ps_ret pe_w) ?_)
  refine h F ad σ H _ S (hm.imp fun r q F' H' p vs n h1 h2 h3 hz h4 => ?_)
  have S' := S.nx n
  exact hR r F' H' (.ref p) S'.f0 S'.fh S'.gh S'.fg ⟨p, vs, rfl, S.gh.free h1, h2, h3, hz, h4⟩ q
theorem bj_retO {en : Enc X.K α} {Qr : List α → Prop} {i k : Nat} {y : Str} {xs : List α} (hR : RT Z (rtN en) Qr D.rt) (hs : sp.sl[i]? = some (.own k) := by rfl) (ho : sp.ob[k]? = some (.lst t en xs) := by rfl) (hN : X.N[i]? = some y := by rfl)
    (hv : Vis X.env.scope y := by first | exact Or.inl rfl | exact Or.inr (Or.inl rfl) | exact Or.inr (Or.inr rfl)) (hd : (y == ("__debug__" : Str)) = false := by decide) (hcd : (y == ("__classdict__" : Str)) = false := by decide) :
    BJ X Z Qr D sp (.Return (some (.Name y p)) pos :: rest) (.ok xs) := fun F ad σ H S hm => by
  refine seq (ofS (ps_ret (pe_var (i := i) hN hv hd hcd)) ?_)
  obtain ⟨q, vs, h1, h2, h3, hz, h4, h5, h6, ht⟩ := S.own hs ho
  exact ⟨.ref q, h1, hR xs F H (.ref q) S.f0 S.fh S.gh S.fg ⟨q, vs, rfl, h6, h5, h3, hz, h4⟩ hm⟩
/-- the end of a def that hands nothing back -/
theorem bj_fall {Qr : Unit → Prop} (hR : RT Z (rtV (eU : Enc X.K Unit)) Qr (fun v H' => v = .non → ∀ σ, D.nx σ H')) : BJ X Z Qr D sp [] (.ok ()) := fun F ad σ H S hm =>
  ofB pss_nil (hR () F H .non S.f0 S.fh S.gh S.fg rfl hm rfl σ)
/-! ### stores -/
theorem bj_asg {en : Enc X.K α} {me : Res α} {kk : α → Res ρ} {i : Nat} {pos' : Pos} (am : Amb X Z k) (h : EJ X Z sp e me en) (hr : ∀ v, BJ X Z Qr D ⟨sp.sl.set i (.val en v), sp.ob⟩ rest (kk v)) (hi : X.N[i]? = some x := by rfl) (hx : Loc X.env.scope x := by first | exact Or.inl rfl | exact Or.inr rfl)
    (hs : swapsWith e (some (.Name x pos')) pos.line X.env = pure false := by rfl) (hf : X.fn x = true ∨ X.env.scope.names.lookup x = some .local := by first | exact .inl rfl | exact .inr rfl) :
    BJ X Z Qr D sp (.Assign [.Name x pos'] e pos :: rest) (me.bi kk) := fun F ad σ H S hm => by
  refine seq (ofS (ps_set am.nd hi hx pe_w hs hf) ?_)
  refine h F ad σ H _ S (hm.bi.imp fun v q F' H' u n r => ?_)
  exact hr v F' ad _ H' ((S.nx n).set ⟨u, rfl, r⟩) q
theorem bj_asg_p {en : Enc X.K α} {v : α} {i : Nat} {pos' : Pos} (am : Amb X Z k) (h : EJ X Z sp e (.ok v) en) (hr : BJ X Z Qr D ⟨sp.sl.set i (.val en v), sp.ob⟩ rest m) (hi : X.N[i]? = some x := by rfl) (hx : Loc X.env.scope x := by first | exact Or.inl rfl | exact Or.inr rfl)
    (hs : swapsWith e (some (.Name x pos')) pos.line X.env = pure false := by rfl) (hf : X.fn x = true ∨ X.env.scope.names.lookup x = some .local := by first | exact .inl rfl | exact .inr rfl) :
    BJ X Z Qr D sp (.Assign [.Name x pos'] e pos :: rest) m := fun F ad σ H S hm => by
  refine seq (ofS (ps_set am.nd hi hx pe_w hs hf) ?_)
  refine h F ad σ H _ S (fun F' H' u n r => ?_)
  exact hr F' ad _ H' ((S.nx n).set ⟨u, rfl, r⟩) hm
/-- a new list to a name, to be changed -/
theorem bj_own {en : Enc X.K α} {me : Res (List α)} {kk : List α → Res ρ} {i : Nat} {pos' : Pos} (am : Amb X Z k) (h : FJ X Z sp e me en) (hr : ∀ v, BJ X Z Qr D ⟨sp.sl.set i (.own sp.ob.length), sp.ob ++ [.lst none en v]⟩ rest (kk v)) (hi : X.N[i]? = some x := by rfl) (hx : Loc X.env.scope x := by first | exact Or.inl rfl | exact Or.inr rfl)
    (hs : swapsWith e (some (.Name x pos')) pos.line X.env = pure false := by rfl) (hf : X.fn x = true ∨ X.env.scope.names.lookup x = some .local := by first | exact .inl rfl | exact .inr rfl) :
    BJ X Z Qr D sp (.Assign [.Name x pos'] e pos :: rest) (me.bi kk) := fun F ad σ H S hm => by
  refine seq (ofS (ps_set am.nd hi hx pe_w hs hf) ?_)
  refine h F ad σ H _ S (hm.bi.imp fun v q F' H' p vs n h1 h2 h3 hz h4 => ?_)
  exact hr v F' (ad ++ [p]) _ H' ((S.push n h1 h2 h3 hz h4).set ⟨p, by rw [S.olen]; simp, rfl⟩) q
theorem bj_own_p {en : Enc X.K α} {v : List α} {i : Nat} {pos' : Pos} (am : Amb X Z k) (h : FJ X Z sp e (.ok v) en) (hr : BJ X Z Qr D ⟨sp.sl.set i (.own sp.ob.length), sp.ob ++ [.lst none en v]⟩ rest m) (hi : X.N[i]? = some x := by rfl) (hx : Loc X.env.scope x := by first | exact Or.inl rfl | exact Or.inr rfl)
    (hs : swapsWith e (some (.Name x pos')) pos.line X.env = pure false := by rfl) (hf : X.fn x = true ∨ X.env.scope.names.lookup x = some .local := by first | exact .inl rfl | exact .inr rfl) :
    BJ X Z Qr D sp (.Assign [.Name x pos'] e pos :: rest) m := fun F ad σ H S hm => by
  refine seq (ofS (ps_set am.nd hi hx pe_w hs hf) ?_)
  refine h F ad σ H _ S (fun F' H' p vs n h1 h2 h3 hz h4 => ?_)
  exact hr F' (ad ++ [p]) _ H' ((S.push n h1 h2 h3 hz h4).set ⟨p, by rw [S.olen]; simp, rfl⟩) hm
/-- a tuple to names -/
theorem bj_tup {en : Enc X.K α} {me : Res α} {kk : α → Res ρ} {tg : Expr} {is : List Nat} {bd : α → List (Sl X.K) → List (Sl X.K)} (h : EJ X Z sp e me en) (g : GJ X tg en is bd) (hr : ∀ v, BJ X Z Qr D ⟨bd v sp.sl, sp.ob⟩ rest (kk v))
    (hs : swapsWithSole [tg] e pos.line X.env = pure false := by rfl) (hw : swappedStores [tg] e X.env = pure none := by rfl) (h1 : (assignEach [tg] X.env).map (·.2) = [assign tg X.env] := by rfl) :
    BJ X Z Qr D sp (.Assign [tg] e pos :: rest) (me.bi kk) := fun F ad σ H S hm => by
  refine seq (ofS (ps_asg pe_w pg_w hs hw h1) ?_)
  refine h F ad σ H _ S (hm.bi.imp fun v q F' H' u n r => ?_)
  exact g Z F' ad sp σ H' u v _ (S.nx n) r fun σ' S' _ _ => hr v F' ad σ' H' S' q
theorem bj_tup_p {en : Enc X.K α} {v : α} {tg : Expr} {is : List Nat} {bd : α → List (Sl X.K) → List (Sl X.K)} (h : EJ X Z sp e (.ok v) en) (g : GJ X tg en is bd) (hr : BJ X Z Qr D ⟨bd v sp.sl, sp.ob⟩ rest m)
    (hs : swapsWithSole [tg] e pos.line X.env = pure false := by rfl) (hw : swappedStores [tg] e X.env = pure none := by rfl) (h1 : (assignEach [tg] X.env).map (·.2) = [assign tg X.env] := by rfl) :
    BJ X Z Qr D sp (.Assign [tg] e pos :: rest) m := fun F ad σ H S hm => by
  refine seq (ofS (ps_asg pe_w pg_w hs hw h1) ?_)
  refine h F ad σ H _ S (fun F' H' u n r => ?_)
  exact g Z F' ad sp σ H' u v _ (S.nx n) r fun σ' S' _ _ => hr F' ad σ' H' S' hm
/-- x += e, ints -/
theorem bj_aug {op : Operator} {f : Int → Int → Int} {me : Res Int} {kk : Int → Res ρ} {i : Nat} {u : Int} {pos' : Pos} (am : Amb X Z k) (ho : PIp X op (ipI f)) (hs : sp.sl[i]? = some (.val eI u)) (h : EJ X Z sp e me eI) (hr : ∀ v, BJ X Z Qr D ⟨sp.sl.set i (.val eI (f u v)), sp.ob⟩ rest (kk (f u v)))
    (hi : X.N[i]? = some x := by rfl) (hx : Loc X.env.scope x := by first | exact Or.inl rfl | exact Or.inr rfl) (hf : X.fn x = true ∨ X.env.scope.names.lookup x = some .local := by first | exact .inl rfl | exact .inr rfl) :
    BJ X Z Qr D sp (.AugAssign (.Name x pos') op e pos :: rest) (me.bi fun v => kk (f u v)) := fun F ad σ H S hm => by
  refine seq (ofS (ps_aug am.nd hi hx pe_w ho hf) ?_)
  obtain ⟨o, h1, w, h2, h3⟩ := S.sl i _ hs
  refine ⟨w, by rw [h1, h2], ?_⟩
  refine h F ad σ H _ S (hm.bi.imp fun v q F' H' y n r => ?_)
  exact ⟨u, v, h3, r, hr v F' ad _ H' ((S.nx n).set ⟨_, rfl, rfl⟩) q⟩
theorem bj_aug_p {op : Operator} {f : Int → Int → Int} {v u : Int} {i : Nat} {pos' : Pos} (am : Amb X Z k) (ho : PIp X op (ipI f)) (hs : sp.sl[i]? = some (.val eI u)) (h : EJ X Z sp e (.ok v) eI) (hr : BJ X Z Qr D ⟨sp.sl.set i (.val eI (f u v)), sp.ob⟩ rest m)
    (hi : X.N[i]? = some x := by rfl) (hx : Loc X.env.scope x := by first | exact Or.inl rfl | exact Or.inr rfl) (hf : X.fn x = true ∨ X.env.scope.names.lookup x = some .local := by first | exact .inl rfl | exact .inr rfl) :
    BJ X Z Qr D sp (.AugAssign (.Name x pos') op e pos :: rest) m := fun F ad σ H S hm => by
  refine seq (ofS (ps_aug am.nd hi hx pe_w ho hf) ?_)
  obtain ⟨o, h1, w, h2, h3⟩ := S.sl i _ hs
  refine ⟨w, by rw [h1, h2], ?_⟩
  refine h F ad σ H _ S (fun F' H' y n r => ?_)
  exact ⟨u, v, h3, r, hr F' ad _ H' ((S.nx n).set ⟨_, rfl, rfl⟩) hm⟩
/-! ### one's own list, changed -/
def appM {α : Type} (xs : List α) (y : α) : Res (List α) := gd (xs.length < sizeLine) (xs ++ [y])
theorem tyV_own {K : Frag} {q : Addr} {vs : List V} (h : H q = some (.lst vs)) : tyV K "list" (.ref q) H := .inl ⟨rfl, vs, SqL.of h⟩
theorem bj_append {en : Enc X.K α} {me : Res α} {kk : List α → Res ρ} {i o : Nat} {xs : List α} {apos cpos : Pos} (hs : sp.sl[i]? = some (.own o)) (ho : sp.ob[o]? = some (.lst t en xs)) (h : EJ X Z sp e me en) (hr : ∀ v, BJ X Z Qr D ⟨sp.sl, sp.ob.set o (.lst t en v)⟩ rest (kk v)) (hN : X.N[i]? = some x := by rfl) (hn : nst e = true := by rfl)
    (hline : (apos.endLine == cpos.line) = true := by rfl) (hv : Vis X.env.scope x := by first | exact Or.inl rfl | exact Or.inr (Or.inl rfl) | exact Or.inr (Or.inr rfl)) (hd : (x == ("__debug__" : Str)) = false := by decide) (hcd : (x == ("__classdict__" : Str)) = false := by decide)
    (hbase : attributeBase (.Name x p) "append" X.env (eval (.Name x p) X.env) = eval (.Name x p) X.env := by rfl)
    (hw : swapsWith (.Call (.Attribute (.Name x p) "append" apos) [e] [] cpos) none pos.line X.env = pure false := by rfl) :
    BJ X Z Qr D sp (.Expr (.Call (.Attribute (.Name x p) "append" apos) [e] [] cpos) pos :: rest) (me.bi fun y => (appM xs y).bi kk) := fun F ad σ H S hm => by
  refine seq (ofS (ps_expr (pe_bm PySem.F.plainAttrs_list PySem.F.slot_list_append PySem.F.type_list_append mt_append (pe_var (i := i) hN hv hd hcd) (pa_cons pe_w pa_nil (star_cons hn)) hbase (by rw [star_cons hn]; rfl) hline (star_cons hn) rfl) hw) ?_)
  obtain ⟨q, vs, h1, h2, h3, hz, h4, h5, h6, ht⟩ := S.own hs ho
  refine ⟨.ref q, h1, tyV_own h3, ?_⟩
  refine h F ad σ H _ S (hm.bi.imp fun y g F' H' u n r => ?_)
  obtain ⟨c, g⟩ := g.bi.gd
  have h3' := n.hh _ _ h3
  have S' := S.nx n
  have hl : vs.length < sizeLine := by rw [h4.length]; exact c
  refine ⟨q, vs, u, rfl, rfl, h3', hl, ?_⟩
  exact hr _ F' ad σ _ (S'.upd h2 ht ⟨_, h3'⟩ (n.non h5 (by rw [h3]; exact fun z => nomatch z)) h6 (by rw [List.length_append]; exact hl) ((h4.mono n.ff).snoc r)) g
theorem bj_append_p {en : Enc X.K α} {y : α} {kk : List α → Res ρ} {i o : Nat} {xs : List α} {apos cpos : Pos} (hs : sp.sl[i]? = some (.own o)) (ho : sp.ob[o]? = some (.lst t en xs)) (h : EJ X Z sp e (.ok y) en) (hr : ∀ v, BJ X Z Qr D ⟨sp.sl, sp.ob.set o (.lst t en v)⟩ rest (kk v)) (hN : X.N[i]? = some x := by rfl) (hn : nst e = true := by rfl)
    (hline : (apos.endLine == cpos.line) = true := by rfl) (hv : Vis X.env.scope x := by first | exact Or.inl rfl | exact Or.inr (Or.inl rfl) | exact Or.inr (Or.inr rfl)) (hd : (x == ("__debug__" : Str)) = false := by decide) (hcd : (x == ("__classdict__" : Str)) = false := by decide)
    (hbase : attributeBase (.Name x p) "append" X.env (eval (.Name x p) X.env) = eval (.Name x p) X.env := by rfl)
    (hw : swapsWith (.Call (.Attribute (.Name x p) "append" apos) [e] [] cpos) none pos.line X.env = pure false := by rfl) :
    BJ X Z Qr D sp (.Expr (.Call (.Attribute (.Name x p) "append" apos) [e] [] cpos) pos :: rest) ((appM xs y).bi kk) := bj_append hs ho h hr hN hn hline hv hd hcd hbase hw
def insM {α : Type} (xs : List α) (i : Int) (y : α) : Res (List α) := gd (xs.length < sizeLine ∧ 0 ≤ i ∧ i < 2 ^ 63) (xs.take i.toNat ++ [y] ++ xs.drop i.toNat)
theorem bj_clear {en : Enc X.K α} {i o : Nat} {xs : List α} {apos cpos : Pos} (hs : sp.sl[i]? = some (.own o)) (ho : sp.ob[o]? = some (.lst t en xs)) (hr : BJ X Z Qr D ⟨sp.sl, sp.ob.set o (.lst t en [])⟩ rest m) (hN : X.N[i]? = some x := by rfl)
    (hline : (apos.endLine == cpos.line) = true := by rfl) (hv : Vis X.env.scope x := by first | exact Or.inl rfl | exact Or.inr (Or.inl rfl) | exact Or.inr (Or.inr rfl)) (hd : (x == ("__debug__" : Str)) = false := by decide) (hcd : (x == ("__classdict__" : Str)) = false := by decide)
    (hbase : attributeBase (.Name x p) "clear" X.env (eval (.Name x p) X.env) = eval (.Name x p) X.env := by rfl)
    (hw : swapsWith (.Call (.Attribute (.Name x p) "clear" apos) [] [] cpos) none pos.line X.env = pure false := by rfl) :
    BJ X Z Qr D sp (.Expr (.Call (.Attribute (.Name x p) "clear" apos) [] [] cpos) pos :: rest) m := fun F ad σ H S hm => by
  refine seq (ofS (ps_expr (pe_bm0 PySem.F.plainAttrs_list PySem.F.slot_list_clear PySem.F.type_list_clear mt_clear (pe_var (i := i) hN hv hd hcd) hbase hline) hw) ?_)
  obtain ⟨q, vs, h1, h2, h3, hz, h4, h5, h6, ht⟩ := S.own hs ho
  refine ⟨.ref q, h1, tyV_own h3, q, vs, rfl, rfl, h3, ?_⟩
  exact hr F ad σ _ (S.upd h2 ht ⟨_, h3⟩ h5 h6 (Nat.zero_le _) .nil) hm
/-- x[i] = e -/
theorem bj_seti {en : Enc X.K α} {me : Res α} {mi : Res Int} {kk : List α → Res ρ} {i o : Nat} {xs : List α} {ie : Expr} {spos : Pos} (hs : sp.sl[i]? = some (.own o)) (ho : sp.ob[o]? = some (.lst t en xs)) (h : EJ X Z sp e me en) (hi : EJ X Z sp ie mi eI) (hr : ∀ v, BJ X Z Qr D ⟨sp.sl, sp.ob.set o (.lst t en v)⟩ rest (kk v)) (hN : X.N[i]? = some x := by rfl)
    (hv : Vis X.env.scope x := by first | exact Or.inl rfl | exact Or.inr (Or.inl rfl) | exact Or.inr (Or.inr rfl)) (hd : (x == ("__debug__" : Str)) = false := by decide) (hcd : (x == ("__classdict__" : Str)) = false := by decide)
    (ha : ∀ v, assign (.Subscript (.Name x p) ie spos) X.env v = (do
      let ov ← holding [v] (eval (.Name x p) X.env)
      let iv ← holding [v, ov] (eval ie X.env)
      standAt spos
      holding [v, ov, iv] (setItem ov iv v)
      release [v, ov, iv] []) := by intro _; rfl)
    (h2 : swapsWithSole [.Subscript (.Name x p) ie spos] e pos.line X.env = pure false := by rfl) (hw : swappedStores [.Subscript (.Name x p) ie spos] e X.env = pure none := by rfl) (h1 : (assignEach [.Subscript (.Name x p) ie spos] X.env).map (·.2) = [assign (.Subscript (.Name x p) ie spos) X.env] := by rfl) :
    BJ X Z Qr D sp (.Assign [.Subscript (.Name x p) ie spos] e pos :: rest) (me.bi fun y => mi.bi fun j => (seti xs j y).bi kk) := fun F ad σ H S hm => by
  refine seq (ofS (ps_asg pe_w (pg_sub (pe_var (i := i) hN hv hd hcd) pe_w set_list ha) h2 hw h1) ?_)
  refine h F ad σ H _ S (hm.bi.imp fun y g F1 H1 u n1 r1 => ?_)
  have S1 := S.nx n1
  obtain ⟨q, vs, k1, k2, k3, hz, k4, k5, k6, ht⟩ := S1.own hs ho
  refine ⟨.ref q, k1, ?_⟩
  refine hi F1 ad σ H1 _ S1 (g.bi.imp fun j g F2 H2 w n2 r2 => ?_)
  have S2 := S1.nx n2
  unfold seti at g
  cases ej : ixN xs.length j with
  | none => rw [ej] at g; exact g.elim
  | some t =>
    rw [ej] at g
    have k3' := n2.hh _ _ k3
    refine ⟨q, vs, j, t, rfl, r2, k3', by rw [k4.length]; exact ej, ?_⟩
    exact hr _ F2 ad σ _ (S2.upd k2 ht ⟨_, k3'⟩ (n2.non k5 (by rw [k3]; exact fun z => nomatch z)) k6 (by rw [List.length_set]; exact hz) ((k4.mono n2.ff).set (en.mono n2.ff r1) t)) g
theorem bj_seti_p {en : Enc X.K α} {y : α} {jj : Int} {kk : List α → Res ρ} {i o : Nat} {xs : List α} {ie : Expr} {spos : Pos} (hs : sp.sl[i]? = some (.own o)) (ho : sp.ob[o]? = some (.lst t en xs)) (h : EJ X Z sp e (.ok y) en) (hi : EJ X Z sp ie (.ok jj) eI) (hr : ∀ v, BJ X Z Qr D ⟨sp.sl, sp.ob.set o (.lst t en v)⟩ rest (kk v)) (hN : X.N[i]? = some x := by rfl)
    (hv : Vis X.env.scope x := by first | exact Or.inl rfl | exact Or.inr (Or.inl rfl) | exact Or.inr (Or.inr rfl)) (hd : (x == ("__debug__" : Str)) = false := by decide) (hcd : (x == ("__classdict__" : Str)) = false := by decide)
    (ha : ∀ v, assign (.Subscript (.Name x p) ie spos) X.env v = (do
      let ov ← holding [v] (eval (.Name x p) X.env)
      let iv ← holding [v, ov] (eval ie X.env)
      standAt spos
      holding [v, ov, iv] (setItem ov iv v)
      release [v, ov, iv] []) := by intro _; rfl)
    (h2 : swapsWithSole [.Subscript (.Name x p) ie spos] e pos.line X.env = pure false := by rfl) (hw : swappedStores [.Subscript (.Name x p) ie spos] e X.env = pure none := by rfl) (h1 : (assignEach [.Subscript (.Name x p) ie spos] X.env).map (·.2) = [assign (.Subscript (.Name x p) ie spos) X.env] := by rfl) :
    BJ X Z Qr D sp (.Assign [.Subscript (.Name x p) ie spos] e pos :: rest) ((seti xs jj y).bi kk) := bj_seti hs ho h hi hr hN hv hd hcd ha h2 hw h1
/-- o[i], a list, by values -/
theorem get_listV : PGet X (fun o i H Q => ∃ p xs k v, o = .ref p ∧ i = .int k ∧ SqL X.K H p xs ∧ atI xs k = some v ∧ Q v H) := by
  intro pins s σ H o i ov iv Q I ro ri h
  obtain ⟨p, xs, k, v, rfl, rfl, hq, hv, q⟩ := h
  cases ro
  obtain ⟨t, rfl⟩ := ri
  obtain ⟨its, r, pl, hz⟩ := I.list hq
  obtain ⟨j, h1, h2, h3, h4, h5⟩ := atI_get hv
  obtain ⟨w, ew, rw'⟩ := r.get h2
  have hl := r.length
  have hn := line63
  have fin : EP X pins σ Q w s := ⟨v, H, I, rw', q⟩
  by_cases h0 : 0 ≤ k
  · have hj : k.toNat = j := by
      rw [seqIndex_of h0 h5] at h1
      exact Option.some.inj h1
    exact wpAny_getItem_list pl.isList h0 (by omega) (by rw [hj]; simpa using ew) fin
  · have hj : (k + (its.toArray.size : Int)).toNat = j := by
      rw [seqIndex_neg (by omega) h4] at h1
      rw [List.size_toArray, ← hl]
      exact Option.some.inj h1
    exact wpAny_getItem_list_neg pl.isList (by omega) (by rw [List.size_toArray] <;> omega) (by omega) (by rw [hj]; simpa using ew) fin
/-- x[i] += e -/
def augi (f : Int → Int → Int) (xs : List Int) (i v : Int) : Res (List Int) := (geti xs i).bi fun u => seti xs i (f u v)
theorem bj_augi {op : Operator} {f : Int → Int → Int} {me mi : Res Int} {kk : List Int → Res ρ} {i o : Nat} {xs : List Int} {ie : Expr} {spos : Pos} (hp : PIp X op (ipI f)) (hs : sp.sl[i]? = some (.own o)) (ho : sp.ob[o]? = some (.lst t eI xs)) (hi : EJ X Z sp ie mi eI) (h : EJ X Z sp e me eI) (hr : ∀ v, BJ X Z Qr D ⟨sp.sl, sp.ob.set o (.lst t eI v)⟩ rest (kk v)) (hN : X.N[i]? = some x := by rfl)
    (hv : Vis X.env.scope x := by first | exact Or.inl rfl | exact Or.inr (Or.inl rfl) | exact Or.inr (Or.inr rfl)) (hd : (x == ("__debug__" : Str)) = false := by decide) (hcd : (x == ("__classdict__" : Str)) = false := by decide)
    (ha : ∀ ov iv new, augStore ie ov iv new = (do holding [new, ov, iv] (setItem ov iv new); release [new, ov, iv] []; pure .next) := by intros; rfl) :
    BJ X Z Qr D sp (.AugAssign (.Subscript (.Name x p) ie spos) op e pos :: rest) (mi.bi fun j => (geti xs j).bi fun u => me.bi fun v => (seti xs j (f u v)).bi kk) := fun F ad σ H S hm => by
  refine seq (ofS (ps_augS (pe_var (i := i) hN hv hd hcd) pe_w get_listV pe_w hp set_list ha) ?_)
  obtain ⟨q, vs, k1, k2, k3, hz, k4, k5, k6, ht⟩ := S.own hs ho
  refine ⟨.ref q, k1, ?_⟩
  refine hi F ad σ H _ S (hm.bi.imp fun j g F1 H1 w n1 r1 => ?_)
  have S1 := S.nx n1
  obtain ⟨u, hu, g⟩ := g.bi.geti
  have k3a := n1.hh _ _ k3
  obtain ⟨uv, gu, ru⟩ := (k4.mono n1.ff).atI hu
  refine ⟨q, vs, j, uv, rfl, r1, SqL.of k3a, gu, ?_⟩
  refine h F1 ad σ H1 _ S1 (g.bi.imp fun v g F2 H2 y n2 r2 => ?_)
  have S2 := S1.nx n2
  have n := n1.trans n2
  refine ⟨u, v, ru, r2, ?_⟩
  unfold seti at g
  cases ej : ixN xs.length j with
  | none => rw [ej] at g; exact g.elim
  | some t =>
    rw [ej] at g
    have k3' := n.hh _ _ k3
    refine ⟨q, vs, j, t, rfl, r1, k3', by rw [k4.length]; exact ej, ?_⟩
    exact hr _ F2 ad σ _ (S2.upd k2 ht ⟨_, k3'⟩ (n.non k5 (by rw [k3]; exact fun z => nomatch z)) k6 (by rw [List.length_set]; exact hz) ((k4.mono n.ff).set rfl t)) g
theorem bj_augi_p {op : Operator} {f : Int → Int → Int} {v jj : Int} {kk : List Int → Res ρ} {i o : Nat} {xs : List Int} {ie : Expr} {spos : Pos} (hp : PIp X op (ipI f)) (hs : sp.sl[i]? = some (.own o)) (ho : sp.ob[o]? = some (.lst t eI xs)) (hi : EJ X Z sp ie (.ok jj) eI) (h : EJ X Z sp e (.ok v) eI) (hr : ∀ v, BJ X Z Qr D ⟨sp.sl, sp.ob.set o (.lst t eI v)⟩ rest (kk v)) (hN : X.N[i]? = some x := by rfl)
    (hv : Vis X.env.scope x := by first | exact Or.inl rfl | exact Or.inr (Or.inl rfl) | exact Or.inr (Or.inr rfl)) (hd : (x == ("__debug__" : Str)) = false := by decide) (hcd : (x == ("__classdict__" : Str)) = false := by decide)
    (ha : ∀ ov iv new, augStore ie ov iv new = (do holding [new, ov, iv] (setItem ov iv new); release [new, ov, iv] []; pure .next) := by intros; rfl) :
    BJ X Z Qr D sp (.AugAssign (.Subscript (.Name x p) ie spos) op e pos :: rest) ((augi f xs jj v).bi kk) := fun F ad σ H S hm => bj_augi hp hs ho hi h hr hN hv hd hcd ha F ad σ H S (by
    unfold augi at hm
    rw [bi_bi] at hm
    exact hm)
/-- x.insert(i, e) -/
theorem bj_insert {en : Enc X.K α} {me : Res α} {mi : Res Int} {kk : List α → Res ρ} {i o : Nat} {xs : List α} {ie : Expr} {apos cpos : Pos} (hs : sp.sl[i]? = some (.own o)) (ho : sp.ob[o]? = some (.lst t en xs)) (hi : EJ X Z sp ie mi eI) (h : EJ X Z sp e me en) (hr : ∀ v, BJ X Z Qr D ⟨sp.sl, sp.ob.set o (.lst t en v)⟩ rest (kk v)) (hN : X.N[i]? = some x := by rfl) (hn : nst ie = true := by rfl) (hn2 : nst e = true := by rfl)
    (hline : (apos.endLine == cpos.line) = true := by rfl) (hv : Vis X.env.scope x := by first | exact Or.inl rfl | exact Or.inr (Or.inl rfl) | exact Or.inr (Or.inr rfl)) (hd : (x == ("__debug__" : Str)) = false := by decide) (hcd : (x == ("__classdict__" : Str)) = false := by decide)
    (hbase : attributeBase (.Name x p) "insert" X.env (eval (.Name x p) X.env) = eval (.Name x p) X.env := by rfl)
    (hw : swapsWith (.Call (.Attribute (.Name x p) "insert" apos) [ie, e] [] cpos) none pos.line X.env = pure false := by rfl) :
    BJ X Z Qr D sp (.Expr (.Call (.Attribute (.Name x p) "insert" apos) [ie, e] [] cpos) pos :: rest) (mi.bi fun j => me.bi fun y => (insM xs j y).bi kk) := fun F ad σ H S hm => by
  refine seq (ofS (ps_expr (pe_bm PySem.F.plainAttrs_list PySem.F.slot_list_insert PySem.F.type_list_insert mt_insert (pe_var (i := i) hN hv hd hcd) (pa_cons pe_w (pa_cons pe_w pa_nil (star_cons hn2)) (star_cons hn)) hbase (by rw [star_cons hn, star_cons hn2]; rfl) hline (star_cons hn) (by rw [star_cons hn2]; rfl)) hw) ?_)
  obtain ⟨q, vs, h1, h2, h3, hz, h4, h5, h6, ht⟩ := S.own hs ho
  refine ⟨.ref q, h1, tyV_own h3, ?_⟩
  refine hi F ad σ H _ S (hm.bi.imp fun j g F1 H1 w n1 r1 => ?_)
  refine h F1 ad σ H1 _ (S.nx n1) (g.bi.imp fun y g F2 H2 u n2 r2 => ?_)
  obtain ⟨⟨c1, c2, c3⟩, g⟩ := g.bi.gd
  have n := n1.trans n2
  have h3' := n.hh _ _ h3
  have hl : vs.length < sizeLine := by rw [h4.length]; exact c1
  have r1 : w = .int j := r1
  subst r1
  have rr := h4.mono n.ff
  refine ⟨q, vs, j, u, rfl, rfl, h3', hl, c2, c3, ?_⟩
  refine hr _ F2 ad σ _ ((S.nx n).upd h2 ht ⟨_, h3'⟩ (n.non h5 (by rw [h3]; exact fun z => nomatch z)) h6 ?_ (((rr.take _).append (.cons r2 .nil)).append (rr.drop _))) g
  rw [List.length_append, List.length_append, List.length_take, List.length_drop, List.length_singleton]
  omega
theorem bj_insert_p {en : Enc X.K α} {y : α} {jj : Int} {kk : List α → Res ρ} {i o : Nat} {xs : List α} {ie : Expr} {apos cpos : Pos} (hs : sp.sl[i]? = some (.own o)) (ho : sp.ob[o]? = some (.lst t en xs)) (hi : EJ X Z sp ie (.ok jj) eI) (h : EJ X Z sp e (.ok y) en) (hr : ∀ v, BJ X Z Qr D ⟨sp.sl, sp.ob.set o (.lst t en v)⟩ rest (kk v)) (hN : X.N[i]? = some x := by rfl) (hn : nst ie = true := by rfl) (hn2 : nst e = true := by rfl)
    (hline : (apos.endLine == cpos.line) = true := by rfl) (hv : Vis X.env.scope x := by first | exact Or.inl rfl | exact Or.inr (Or.inl rfl) | exact Or.inr (Or.inr rfl)) (hd : (x == ("__debug__" : Str)) = false := by decide) (hcd : (x == ("__classdict__" : Str)) = false := by decide)
    (hbase : attributeBase (.Name x p) "insert" X.env (eval (.Name x p) X.env) = eval (.Name x p) X.env := by rfl)
    (hw : swapsWith (.Call (.Attribute (.Name x p) "insert" apos) [ie, e] [] cpos) none pos.line X.env = pure false := by rfl) :
    BJ X Z Qr D sp (.Expr (.Call (.Attribute (.Name x p) "insert" apos) [ie, e] [] cpos) pos :: rest) ((insM xs jj y).bi kk) := bj_insert hs ho hi h hr hN hn hn2 hline hv hd hcd hbase hw
/-! ### if -/
variable {thn els : List Stmt} {mc : Res Bool} {c : Expr}
/-- both ways go on as k says (or leave) -/
theorem bj_if {S : Type} {sps : S → Spec X.K} {kk : S → Res ρ} {mA mB : Res ρ} (hc : TJ X Z sp c mc) (hr : ∀ s, BJ X Z Qr D (sps s) rest (kk s))
    (hA : ∀ nx, NX X Z Qr nx sps kk → BJ X Z Qr { D with nx := nx } sp thn mA) (hB : ∀ nx, NX X Z Qr nx sps kk → BJ X Z Qr { D with nx := nx } sp els mB) : BJ X Z Qr D sp (.If c thn els pos :: rest) (mc.bi fun b => if b then mA else mB) := fun F ad σ H S hm => by
  refine seq (ofS (ps_if pt_w pb_w pb_w) ?_)
  have N : NX X Z Qr (wB X rest D) sps kk := fun s F ad σ H S' h => hr s F ad σ H S' h
  refine hc F ad σ H _ S (hm.bi.imp fun b q F' H' n => ?_)
  cases b with
  | true => exact hA _ N F' ad σ H' (S.nx n) q
  | false => exact hB _ N F' ad σ H' (S.nx n) q
theorem bj_if_p {S : Type} {sps : S → Spec X.K} {kk : S → Res ρ} {mA mB : Res ρ} {b : Bool} (hc : TJ X Z sp c (.ok b)) (hr : ∀ s, BJ X Z Qr D (sps s) rest (kk s))
    (hA : ∀ nx, NX X Z Qr nx sps kk → BJ X Z Qr { D with nx := nx } sp thn mA) (hB : ∀ nx, NX X Z Qr nx sps kk → BJ X Z Qr { D with nx := nx } sp els mB) : BJ X Z Qr D sp (.If c thn els pos :: rest) (if b then mA else mB) := bj_if hc hr hA hB
/-- the first way leaves; there is no other one -/
theorem bj_ifr {mA mB : Res ρ} (hc : TJ X Z sp c mc) (hA : ∀ nx, BJ X Z Qr { D with nx := nx } sp thn mA) (hr : BJ X Z Qr D sp rest mB) : BJ X Z Qr D sp (.If c thn [] pos :: rest) (mc.bi fun b => if b then mA else mB) := fun F ad σ H S hm => by
  refine seq (ofS (ps_if pt_w pb_w pss_nil) ?_)
  refine hc F ad σ H _ S (hm.bi.imp fun b q F' H' n => ?_)
  cases b with
  | true => exact hA _ F' ad σ H' (S.nx n) q
  | false => exact hr F' ad σ H' (S.nx n) q
theorem bj_ifr_p {mA mB : Res ρ} {b : Bool} (hc : TJ X Z sp c (.ok b)) (hA : ∀ nx, BJ X Z Qr { D with nx := nx } sp thn mA) (hr : BJ X Z Qr D sp rest mB) : BJ X Z Qr D sp (.If c thn [] pos :: rest) (if b then mA else mB) := bj_ifr hc hA hr
/-- nothing leaves: both ways make a state, the rest goes on from it -/
theorem bj_ifs {S : Type} {sps : S → Spec X.K} {kk : S → Res ρ} {mA mB : Res S} (hc : TJ X Z sp c mc) (hr : ∀ s, BJ X Z Qr D (sps s) rest (kk s))
    (hA : ∀ (Q' : S → Prop) (D' : Ends), NX X Z Q' D'.nx sps .ok → BJ X Z Q' D' sp thn mA) (hB : ∀ (Q' : S → Prop) (D' : Ends), NX X Z Q' D'.nx sps .ok → BJ X Z Q' D' sp els mB) : BJ X Z Qr D sp (.If c thn els pos :: rest) ((mc.bi fun b => if b then mA else mB).bi kk) := fun F ad σ H S hm => by
  refine seq (ofS (ps_if pt_w pb_w pb_w) ?_)
  have N : NX X Z (fun s => mwp (kk s) Qr Z.Er) (wB X rest D) sps .ok := fun s F ad σ H S' h => hr s F ad σ H S' h
  refine hc F ad σ H _ S (hm.bi.bi.imp fun b q F' H' n => ?_)
  cases b with
  | true => exact hA _ { D with nx := wB X rest D } N F' ad σ H' (S.nx n) q
  | false => exact hB _ { D with nx := wB X rest D } N F' ad σ H' (S.nx n) q
theorem bj_ifs_p {S : Type} {sps : S → Spec X.K} {kk : S → Res ρ} {mA mB : Res S} {b : Bool} (hc : TJ X Z sp c (.ok b)) (hr : ∀ s, BJ X Z Qr D (sps s) rest (kk s))
    (hA : ∀ (Q' : S → Prop) (D' : Ends), NX X Z Q' D'.nx sps .ok → BJ X Z Q' D' sp thn mA) (hB : ∀ (Q' : S → Prop) (D' : Ends), NX X Z Q' D'.nx sps .ok → BJ X Z Q' D' sp els mB) : BJ X Z Qr D sp (.If c thn els pos :: rest) ((if b then mA else mB).bi kk) := bj_ifs hc hr hA hB
/-! ### for -/
/-- a loop that may be left -/
def loopC {α S ρ : Type} : List α → S → (α → S → (S → Res ρ) → Res ρ) → (S → Res ρ) → Res ρ
  | [], s, _, k => k s
  | x :: r, s, f, k => f x s fun s' => loopC r s' f k
def foldM {α S : Type} : List α → S → (α → S → Res S) → Res S
  | [], s, _ => .ok s
  | x :: r, s, f => (f x s).bi fun s' => foldM r s' f
variable {tg it : Expr}
/-- the data that stay may grow -/
structure ZX (Z Z' : Fz) : Prop where
  f : Same Z.F0 Z'.F0
  n : ∀ a, Z'.F0 a ≠ none → Z.F0 a ≠ none ∨ Z.G a = none
  g : Z'.G = Z.G
  e : Z'.Er = Z.Er
theorem Amb.zx {Z' : Fz} (am : Amb X Z k) (z : ZX Z Z') : Amb X Z' k := ⟨am.hr, am.calm, am.nd, am.po, by rw [z.g, z.e]; exact am.ps⟩
theorem RT.zx {Z' : Fz} {R : RtE ρ} {rt : VK} (h : RT Z R Qr rt) (z : ZX Z Z') : RT Z' R Qr rt := fun r F' H' v f0 fh gh fg hr q => by
  rw [z.g] at gh hr fg
  exact h r F' H' v (z.f.trans f0) fh gh (fun a ha => by
    rcases fg a ha with x | x
    · exact z.n a x
    · exact .inr x) hr q
theorem SOk.back {Z' : Fz} (S : SOk Z' F ad sp σ H) (z : ZX Z Z') : SOk Z F ad sp σ H := by
  have g := z.g
  obtain ⟨f0, fh, gh, fg, nd, st, len, sl, olen, ob, lf⟩ := S
  rw [g] at gh fg sl ob lf
  exact ⟨z.f.trans f0, fh, gh, fun a ha => by
    rcases fg a ha with x | x
    · exact z.n a x
    · exact .inr x, nd, st, len, sl, olen, ob, lf⟩
theorem SOk.fwd (S : SOk Z F ad sp σ H) : ZX Z { Z with F0 := F } ∧ SOk { Z with F0 := F } F ad sp σ H :=
  ⟨⟨S.f0, S.fg, rfl, rfl⟩, ⟨Same.refl _, S.fh, S.gh, fun a h => .inl h, S.nd, S.st, S.len, S.sl, S.olen, S.ob, S.lf⟩⟩
theorem bj_for {S : Type} {en : Enc X.K β} {ms : Res (List β)} {is : List Nat} {bd : β → List (Sl X.K) → List (Sl X.K)} {sps : S → Spec X.K} {B : β → S → (S → Res ρ) → Res ρ} {kk : S → Res ρ} (am : Amb X Z k) (s0 : S) (hs : SJ X Z sp tg it ms en) (hg : GJ X tg en is bd) {ks : List Nat} (le : Le sp (sps s0) ks)
    (hb : ∀ Z', ZX Z Z' → ∀ y s (next : S → Res ρ) nx bk, NX X Z' Qr nx sps next → NX X Z' Qr bk sps kk → BJ X Z' Qr { D with nx := nx, ct := nx, bk := bk } ⟨bd y (sps s).sl, (sps s).ob⟩ body (B y s next))
    (hr : ∀ s, BJ X Z Qr D (sps s) rest (kk s)) (hf : ∀ x, foldedSetIterable it X.env x = pure x := by intro _; rfl) : BJ X Z Qr D sp (.For tg it body [] pos :: rest) (ms.bi fun ys => loopC ys s0 B kk) := fun F ad σ H S hm => by
  refine seq (ofS (ps_for am.po am.calm pi_w pg_w pb_w hf) ?_)
  refine hs F ad σ H _ S (hm.bi.imp fun ys q F1 H1 J n1 _ itr => ?_)
  obtain ⟨zx, S1⟩ := (S.nx n1).fwd
  refine ⟨fun i m σ' H' => m = ys.length - i ∧ i ≤ ys.length ∧ ∃ F' ad' s, SOk { Z with F0 := F1 } F' ad' (sps s) σ' H' ∧ mwp (loopC (ys.drop i) s B kk) Qr Z.Er, ?_, ?_⟩
  · obtain ⟨ad', S'⟩ := le.go _ F1 ad σ H1 S1
    exact ⟨_, rfl, Nat.zero_le _, F1, ad', s0, S', q⟩
  · rintro i m σ' H' ⟨rfl, hi, F', ad', s, S', q⟩
    obtain ⟨g1, g2⟩ := itr i F' H' S'.f0 S'.fh S'.gh
    by_cases hlt : i < ys.length
    · have hy : ys[i]? = some ys[i] := List.getElem?_eq_getElem hlt
      obtain ⟨go, yl⟩ := g1 _ hy
      rw [List.drop_eq_getElem_cons hlt] at q
      refine .inr ⟨go, fun σ2 H2 => ∃ F2 ad2 s2, SOk { Z with F0 := F1 } F2 ad2 (sps s2) σ2 H2 ∧ mwp (loopC (ys.drop (i + 1)) s2 B kk) Qr Z.Er, fun σ2 H2 ⟨F2, ad2, s2, S2, q2⟩ => ⟨ys.length - (i + 1), by omega, rfl, hlt, F2, ad2, s2, S2, q2⟩, fun x H'' hx => ?_⟩
      obtain ⟨F'', n2, rx⟩ := yl x H'' hx
      refine hg _ F'' ad' (sps s) σ' H'' x ys[i] _ (S'.nx n2) rx fun σ3 S3 _ _ => ?_
      exact hb _ zx ys[i] s (fun s' => loopC (ys.drop (i + 1)) s' B kk) _ _ (fun s2 F2 ad2 σ2 H2 S2 q2 => ⟨F2, ad2, s2, S2, q2⟩) (fun s2 F2 ad2 σ2 H2 S2 q2 => hr s2 F2 ad2 σ2 H2 (S2.back zx) q2) F'' ad' σ3 H'' S3 q
    · have e : i = ys.length := by omega
      subst e
      rw [List.drop_length] at q
      exact .inl ⟨g2 (Nat.le_refl _), hr s F' ad' σ' H' (S'.back zx) q⟩
theorem bj_for_p {S : Type} {en : Enc X.K β} {ys : List β} {is : List Nat} {bd : β → List (Sl X.K) → List (Sl X.K)} {sps : S → Spec X.K} {B : β → S → (S → Res ρ) → Res ρ} {kk : S → Res ρ} (am : Amb X Z k) (s0 : S) (hs : SJ X Z sp tg it (.ok ys) en) (hg : GJ X tg en is bd) {ks : List Nat} (le : Le sp (sps s0) ks)
    (hb : ∀ Z', ZX Z Z' → ∀ y s (next : S → Res ρ) nx bk, NX X Z' Qr nx sps next → NX X Z' Qr bk sps kk → BJ X Z' Qr { D with nx := nx, ct := nx, bk := bk } ⟨bd y (sps s).sl, (sps s).ob⟩ body (B y s next))
    (hr : ∀ s, BJ X Z Qr D (sps s) rest (kk s)) (hf : ∀ x, foldedSetIterable it X.env x = pure x := by intro _; rfl) : BJ X Z Qr D sp (.For tg it body [] pos :: rest) (loopC ys s0 B kk) := bj_for am s0 hs hg le hb hr hf
/-- a loop that is not left -/
theorem bj_fors {S : Type} {en : Enc X.K β} {ms : Res (List β)} {is : List Nat} {bd : β → List (Sl X.K) → List (Sl X.K)} {sps : S → Spec X.K} {B : β → S → Res S} {kk : S → Res ρ} (am : Amb X Z k) (s0 : S) (hs : SJ X Z sp tg it ms en) (hg : GJ X tg en is bd) {ks : List Nat} (le : Le sp (sps s0) ks)
    (hb : ∀ Z', ZX Z Z' → ∀ y s (Q' : S → Prop) (D' : Ends), NX X Z' Q' D'.nx sps .ok → BJ X Z' Q' D' ⟨bd y (sps s).sl, (sps s).ob⟩ body (B y s))
    (hr : ∀ s, BJ X Z Qr D (sps s) rest (kk s)) (hf : ∀ x, foldedSetIterable it X.env x = pure x := by intro _; rfl) : BJ X Z Qr D sp (.For tg it body [] pos :: rest) (ms.bi fun ys => (foldM ys s0 B).bi kk) := fun F ad σ H S hm => by
  refine seq (ofS (ps_for am.po am.calm pi_w pg_w pb_w hf) ?_)
  refine hs F ad σ H _ S (hm.bi.imp fun ys q F1 H1 J n1 _ itr => ?_)
  obtain ⟨zx, S1⟩ := (S.nx n1).fwd
  refine ⟨fun i m σ' H' => m = ys.length - i ∧ i ≤ ys.length ∧ ∃ F' ad' s, SOk { Z with F0 := F1 } F' ad' (sps s) σ' H' ∧ mwp ((foldM (ys.drop i) s B).bi kk) Qr Z.Er, ?_, ?_⟩
  · obtain ⟨ad', S'⟩ := le.go _ F1 ad σ H1 S1
    exact ⟨_, rfl, Nat.zero_le _, F1, ad', s0, S', q⟩
  · rintro i m σ' H' ⟨rfl, hi, F', ad', s, S', q⟩
    obtain ⟨g1, g2⟩ := itr i F' H' S'.f0 S'.fh S'.gh
    by_cases hlt : i < ys.length
    · have hy : ys[i]? = some ys[i] := List.getElem?_eq_getElem hlt
      obtain ⟨go, yl⟩ := g1 _ hy
      rw [List.drop_eq_getElem_cons hlt] at q
      have q : mwp (((B ys[i] s).bi fun s' => foldM (ys.drop (i + 1)) s' B).bi kk) Qr Z.Er := q
      rw [bi_bi] at q
      refine .inr ⟨go, fun σ2 H2 => ∃ F2 ad2 s2, SOk { Z with F0 := F1 } F2 ad2 (sps s2) σ2 H2 ∧ mwp ((foldM (ys.drop (i + 1)) s2 B).bi kk) Qr Z.Er, fun σ2 H2 ⟨F2, ad2, s2, S2, q2⟩ => ⟨ys.length - (i + 1), by omega, rfl, hlt, F2, ad2, s2, S2, q2⟩, fun x H'' hx => ?_⟩
      obtain ⟨F'', n2, rx⟩ := yl x H'' hx
      refine hg _ F'' ad' (sps s) σ' H'' x ys[i] _ (S'.nx n2) rx fun σ3 S3 _ _ => ?_
      exact hb _ zx ys[i] s (fun s' => mwp ((foldM (ys.drop (i + 1)) s' B).bi kk) Qr Z.Er) { D with nx := _, ct := _, bk := wB X rest D } (fun s2 F2 ad2 σ2 H2 S2 q2 => ⟨F2, ad2, s2, S2, q2⟩) F'' ad' σ3 H'' S3 q.bi
    · have e : i = ys.length := by omega
      subst e
      rw [List.drop_length] at q
      exact .inl ⟨g2 (Nat.le_refl _), hr s F' ad' σ' H' (S'.back zx) q⟩
theorem bj_fors_p {S : Type} {en : Enc X.K β} {ys : List β} {is : List Nat} {bd : β → List (Sl X.K) → List (Sl X.K)} {sps : S → Spec X.K} {B : β → S → Res S} {kk : S → Res ρ} (am : Amb X Z k) (s0 : S) (hs : SJ X Z sp tg it (.ok ys) en) (hg : GJ X tg en is bd) {ks : List Nat} (le : Le sp (sps s0) ks)
    (hb : ∀ Z', ZX Z Z' → ∀ y s (Q' : S → Prop) (D' : Ends), NX X Z' Q' D'.nx sps .ok → BJ X Z' Q' D' ⟨bd y (sps s).sl, (sps s).ob⟩ body (B y s))
    (hr : ∀ s, BJ X Z Qr D (sps s) rest (kk s)) (hf : ∀ x, foldedSetIterable it X.env x = pure x := by intro _; rfl) : BJ X Z Qr D sp (.For tg it body [] pos :: rest) ((foldM ys s0 B).bi kk) := bj_fors am s0 hs hg le hb hr hf
/-! ### while -/
def whileC {S ρ : Type} : Nat → S → (S → Res Bool) → (S → (S → Res ρ) → Res ρ) → (S → Res ρ) → Res ρ
  | 0, _, _, _, _ => .bad
  | n + 1, s, c, B, k => (c s).bi fun b => if b then B s (fun s' => whileC n s' c B k) else k s
def whileM {S : Type} : Nat → S → (S → Res Bool) → (S → Res S) → Res S
  | 0, _, _, _ => .bad
  | n + 1, s, c, B => (c s).bi fun b => if b then (B s).bi (fun s' => whileM n s' c B) else .ok s
theorem bj_while {S : Type} {sps : S → Spec X.K} {cm : S → Res Bool} {B : S → (S → Res ρ) → Res ρ} {kk : S → Res ρ} {c : Expr} (am : Amb X Z k) (n : Nat) (s0 : S) {ks : List Nat} (le : Le sp (sps s0) ks) (hc : ∀ s, TJ X Z (sps s) c (cm s))
    (hb : ∀ s (next : S → Res ρ) nx bk, NX X Z Qr nx sps next → NX X Z Qr bk sps kk → BJ X Z Qr { D with nx := nx, ct := nx, bk := bk } (sps s) body (B s next))
    (hr : ∀ s, BJ X Z Qr D (sps s) rest (kk s)) : BJ X Z Qr D sp (.While c body [] pos :: rest) (whileC n s0 cm B kk) := fun F ad σ H S hm => by
  refine seq (ofS (ps_while am.po pt_w pb_w) ?_)
  refine ⟨fun m σ' H' => ∃ F' ad' s, SOk Z F' ad' (sps s) σ' H' ∧ mwp (whileC m s cm B kk) Qr Z.Er, ?_, ?_⟩
  · obtain ⟨ad', S'⟩ := le.go _ F ad σ H S
    exact ⟨n, F, ad', s0, S', hm⟩
  · rintro m σ' H' ⟨F', ad', s, S', q⟩
    cases m with
    | zero => exact q.elim
    | succ m =>
      refine hc s F' ad' σ' H' _ S' (mwp.imp (mwp.bi q) fun b q F2 H2 n2 => ?_)
      cases b with
      | false => exact hr s F2 ad' σ' H2 (S'.nx n2) q
      | true =>
        refine ⟨fun σ3 H3 => ∃ F3 ad3 s3, SOk Z F3 ad3 (sps s3) σ3 H3 ∧ mwp (whileC m s3 cm B kk) Qr Z.Er, fun σ3 H3 h => ⟨m, Nat.lt_succ_self m, h⟩, ?_⟩
        exact hb s (fun s' => whileC m s' cm B kk) _ _ (fun s3 F3 ad3 σ3 H3 S3 q3 => ⟨F3, ad3, s3, S3, q3⟩) (fun s3 F3 ad3 σ3 H3 S3 q3 => hr s3 F3 ad3 σ3 H3 S3 q3) F2 ad' σ' H2 (S'.nx n2) q
theorem bj_whiles {S : Type} {sps : S → Spec X.K} {cm : S → Res Bool} {B : S → Res S} {kk : S → Res ρ} {c : Expr} (am : Amb X Z k) (n : Nat) (s0 : S) {ks : List Nat} (le : Le sp (sps s0) ks) (hc : ∀ s, TJ X Z (sps s) c (cm s))
    (hb : ∀ s (Q' : S → Prop) (D' : Ends), NX X Z Q' D'.nx sps .ok → BJ X Z Q' D' (sps s) body (B s))
    (hr : ∀ s, BJ X Z Qr D (sps s) rest (kk s)) : BJ X Z Qr D sp (.While c body [] pos :: rest) ((whileM n s0 cm B).bi kk) := fun F ad σ H S hm => by
  refine seq (ofS (ps_while am.po pt_w pb_w) ?_)
  refine ⟨fun m σ' H' => ∃ F' ad' s, SOk Z F' ad' (sps s) σ' H' ∧ mwp ((whileM m s cm B).bi kk) Qr Z.Er, ?_, ?_⟩
  · obtain ⟨ad', S'⟩ := le.go _ F ad σ H S
    exact ⟨n, F, ad', s0, S', hm⟩
  · rintro m σ' H' ⟨F', ad', s, S', q⟩
    cases m with
    | zero => exact q.elim
    | succ m =>
      have q : mwp (((cm s).bi fun b => if b then (B s).bi (fun s' => whileM m s' cm B) else .ok s).bi kk) Qr Z.Er := q
      rw [bi_bi] at q
      refine hc s F' ad' σ' H' _ S' (mwp.imp (mwp.bi q) fun b q F2 H2 n2 => ?_)
      cases b with
      | false => exact hr s F2 ad' σ' H2 (S'.nx n2) q
      | true =>
        have q : mwp (((B s).bi (fun s' => whileM m s' cm B)).bi kk) Qr Z.Er := q
        rw [bi_bi] at q
        refine ⟨fun σ3 H3 => ∃ F3 ad3 s3, SOk Z F3 ad3 (sps s3) σ3 H3 ∧ mwp ((whileM m s3 cm B).bi kk) Qr Z.Er, fun σ3 H3 h => ⟨m, Nat.lt_succ_self m, h⟩, ?_⟩
        exact hb s (fun s' => mwp ((whileM m s' cm B).bi kk) Qr Z.Er) { D with nx := _, ct := _, bk := wB X rest D } (fun s3 F3 ad3 σ3 H3 S3 q3 => ⟨F3, ad3, s3, S3, q3⟩) F2 ad' σ' H2 (S'.nx n2) q.bi
/-! ### raise -/
structure ExF (K : Frag) (mg : Str → Option Value) (x : Str) : Prop where
  ex : ∃ C, mg x = some (.ref C) ∧ PySem.W.excIn K C He.veBase "ValueError.__new__" = true ∧ PySem.W.keepIn K (.ref C) = true ∧ PySem.W.subIn K (.ref C) (.type "BaseException") = some true ∧ PySem.W.typeIn K (.ref C) = some (.type "type")
theorem bj_raise {z : Str} {jj : Nat} {pos' : Pos} (am : Amb X Z k) (ex : ExF X.K X.mg x) (hg : Gl X x := by rfl) (hdb : (x == ("__debug__" : Str)) = false := by decide) : BJ X Z Qr D sp (.Raise (some (.Call (.Name x p) [.Constant (.str z) jj p2] [] pos)) none pos' :: rest) (.exc x) := fun F ad σ H S hm => by
  obtain ⟨E, tk, hE⟩ := am.ps
  obtain ⟨C, g, q, kp, sb, ty⟩ := ex.ex
  refine seq (ofS (ps_raise am.calm tk (pmk_own PySem.F.excBase_ValueError q g kp (raises_own sb ty) hg hdb)) ?_)
  exact hE x hm C H g S.gh
end
end Wk

set_option Elab.async false
set_option linter.all false
set_option maxRecDepth 100000
set_option maxHeartbeats 4000000
namespace Wk
open PySem PySem.Spec PyProof.Rows L2
/-! ### comprehensions -/
def compM {α β : Type} : List β → (β → Res Bool) → (β → Res α) → Res (List α)
  | [], _, _ => .ok []
  | y :: r, c, f => (c y).nx.bi fun b => if b then (f y).nx.bi fun z => (compM r c f).bi fun zs => .ok (z :: zs) else compM r c f
def mapMx {α β : Type} : List β → (β → Res α) → Res (List α)
  | [], _ => .ok []
  | y :: r, f => (f y).nx.bi fun z => (mapMx r f).bi fun zs => .ok (z :: zs)
theorem mapMx_ok {α β : Type} (g : β → α) : ∀ ys : List β, mapMx ys (fun y => .ok (g y)) = .ok (ys.map g)
  | [] => rfl
  | y :: r => by
    show (mapMx r fun y => .ok (g y)).bi _ = _
    rw [mapMx_ok g r]
    rfl
theorem compM_ok {α β : Type} (c : β → Bool) (g : β → α) : ∀ ys : List β, compM ys (fun y => .ok (c y)) (fun y => .ok (g y)) = .ok ((ys.filter c).map g)
  | [] => rfl
  | y :: r => by
    show (if c y then (compM r (fun y => .ok (c y)) fun y => .ok (g y)).bi _ else compM r (fun y => .ok (c y)) fun y => .ok (g y)) = _
    rw [compM_ok c g r, List.filter_cons]
    cases c y <;> rfl
theorem compM_map {α β : Type} (f : β → Res α) : ∀ ys : List β, compM ys (fun _ => .ok true) f = mapMx ys f
  | [] => rfl
  | y :: r => by
    show (f y).nx.bi _ = (f y).nx.bi _
    rw [compM_map f r]
section
variable {X : Cx} {Z : Fz} {sp : Spec X.K} {a b c e : Expr} {es : List Expr} {pos p p2 fp : Pos} {α β γ ρ : Type} {k j : Nat} {x : Str} {F F' H H' : Hp} {ad : List Addr} {σ : Sg}
def wipeS {K : Frag} (sl : List (Sl K)) : List Nat → List (Sl K)
  | [] => sl
  | v :: vs => (wipeS sl vs).set v .any
theorem SOk.drop1 {K : Frag} {sp : Spec K} (i : Nat) (S : SOk Z F ad sp σ H) : SOk Z F ad ⟨sp.sl.set i .any, sp.ob⟩ (σ.set i none) H := by
  refine ⟨S.f0, S.fh, S.gh, S.fg, S.nd, S.st, by simp [S.len], fun j t e => ?_, S.olen, S.ob, S.lf⟩
  have e : (sp.sl.set i .any)[j]? = some t := e
  by_cases hj : j = i
  · subst hj
    have hl : j < sp.sl.length := by
      have := getElem?_some_of e
      simpa using this
    rw [List.getElem?_set_self hl] at e
    cases e
    exact ⟨none, by rw [List.getElem?_set_self (by rw [← S.len]; exact hl)], trivial⟩
  · rw [List.getElem?_set_ne (Ne.symm hj)] at e
    obtain ⟨o, h1, h2⟩ := S.sl j t e
    exact ⟨o, by rw [List.getElem?_set_ne (Ne.symm hj)]; exact h1, h2⟩
theorem SOk.wipe {K : Frag} {sp : Spec K} (S : SOk Z F ad sp σ H) : ∀ vs : List Nat, SOk Z F ad ⟨wipeS sp.sl vs, sp.ob⟩ (L2.wipe σ vs) H
  | [] => S
  | v :: vs => (SOk.wipe S vs).drop1 v
theorem wipe_get {σ : Sg} {i : Nat} : ∀ {vs : List Nat}, (L2.wipe σ vs)[i]? = if i ∈ vs ∧ i < σ.length then some none else σ[i]?
  | [] => by simp [L2.wipe]
  | v :: vs => by
    unfold L2.wipe
    by_cases h : v = i
    · subst h
      by_cases hl : v < σ.length
      · rw [List.getElem?_set_self (by rw [wipe_length]; exact hl), if_pos ⟨List.mem_cons_self .., hl⟩]
      · rw [List.getElem?_eq_none (by rw [List.length_set, wipe_length]; omega), if_neg (fun z => hl z.2), List.getElem?_eq_none (by omega)]
    · rw [List.getElem?_set_ne h, wipe_get (vs := vs)]
      simp only [List.mem_cons, show (i = v) = False from eq_false (Ne.symm h), false_or]
theorem wipe_eq {σ σ' : Sg} {vs : List Nat} (hl : σ'.length = σ.length) (h : ∀ i, i ∉ vs → σ'[i]? = σ[i]?) : L2.wipe σ' vs = L2.wipe σ vs := by
  refine List.ext_getElem? fun i => ?_
  rw [wipe_get, wipe_get, hl]
  by_cases hi : i ∈ vs
  · by_cases hlt : i < σ.length
    · rw [if_pos ⟨hi, hlt⟩, if_pos ⟨hi, hlt⟩]
    · rw [if_neg (fun z => hlt z.2), if_neg (fun z => hlt z.2), List.getElem?_eq_none (by omega), List.getElem?_eq_none (by omega)]
  · rw [if_neg (fun z => hi z.1), if_neg (fun z => hi z.1), h i hi]
variable {elt tg iter : Expr} {scope : Scope} {own : List (Str × Nat)}
/-- a block's context -/
abbrev blkX (X : Cx) (scope : Scope) (s : Shared) (H : Hp) (C : Addr) (cl : List (Str × Addr)) (fp : List Addr) : Cx := X.blk s H scope (compEnvC scope cl C X.env) fp
abbrev Fz.mute (Z : Fz) : Fz := { Z with Er := fun _ => False }
theorem Amb.blk (am : Amb X Z k) (s : Shared) (H : Hp) (C : Addr) (cl : List (Str × Addr)) (fp : List Addr) : Amb (blkX X scope s H C cl fp) Z.mute k :=
  ⟨am.hr, am.calm, am.nd, PassesOwn.never, fun _ _ _ => False, takes0, fun _ h => h.elim⟩
def gAll (X : Cx) (scope : Scope) (tg : Expr) : TG := fun v σ H Q => ∀ s H0 C cl fp, wG (blkX X scope s H0 C cl fp) tg v σ H Q
def eAll (X : Cx) (scope : Scope) (e : Expr) : TE := fun σ H Q => ∀ s H0 C cl fp, wE (blkX X scope s H0 C cl fp) e σ H Q
def tAll (X : Cx) (scope : Scope) (e : Expr) : TT := fun σ H Q => ∀ s H0 C cl fp, wT (blkX X scope s H0 C cl fp) e σ H Q
/-- the state in a block's turn -/
abbrev blkS (sp : Spec X.K) (own : List (Str × Nat)) (bd : β → List (Sl X.K) → List (Sl X.K)) (y : β) : Spec X.K := ⟨bd y (wipeS sp.sl (own.map (·.2))), sp.ob⟩
theorem lc_ok {en : Enc X.K β} {en' : Enc X.K α} {m : Res (List β)} {is : List Nat} {bd : β → List (Sl X.K) → List (Sl X.K)} {cm : β → Res Bool} {me : β → Res α} {tt : TT} (hs : SJ X Z sp tg iter m en)
    (hg : ∀ s H C cl fp, GJ (blkX X scope s H C cl fp) tg en is bd) (hi : ∀ i ∈ is, i ∈ own.map (·.2))
    (hc : ∀ y F ad σ H (Q : Bool → Hp → Prop), SOk Z.mute F ad (blkS sp own bd y) σ H → mwp (cm y) (fun b => ∀ F' H', Nx F H F' H' → Q b H') (fun _ => False) → tt σ H Q)
    (he : ∀ y s H C cl fp, EJ (blkX X scope s H C cl fp) Z.mute (blkS sp own bd y) elt (me y) en')
    (F : Hp) (ad : List Addr) (σ : Sg) (H : Hp) (Q : VK) (S : SOk Z F ad sp σ H) (hm : mwp (m.bi fun ys => compM ys cm me) (fun xs => ∀ F' H' p vs, Nx F H F' H' → H p = none → F' p = none → H' p = some (.lst vs) → vs.length ≤ sizeLine → Reps en' F' vs xs → Q (.ref p) H') Z.Er) :
    tLc (wI X tg iter) (gAll X scope tg) tt (eAll X scope elt) (own.map (·.2)) σ H Q := by
  refine hs F ad σ H _ S (hm.bi.imp fun ys q F1 H1 J n1 hz itr => fun D hD => ?_)
  obtain ⟨g1, g2⟩ := n1.free hD
  refine ⟨fun i m Hc => m = ys.length - i ∧ i ≤ ys.length ∧ ∃ F' acc zs, F' D = none ∧ Hc D = some (.lst acc) ∧ acc.length ≤ i ∧ Reps en' F' acc zs ∧ Nx F1 H1 F' Hc ∧
    mwp (compM (ys.drop i) cm me) (fun rest => ∀ F' H' p vs, Nx F H F' H' → H p = none → F' p = none → H' p = some (.lst vs) → vs.length ≤ sizeLine → Reps en' F' vs (zs ++ rest) → Q (.ref p) H') Z.Er, ?_, ?_⟩
  · exact ⟨_, rfl, Nat.zero_le _, F1, [], [], g2, upd_same, Nat.le_refl _, .nil, (Nx.new ⟨Same.refl _, Same.refl _, n1.fh, fun _ h => .inl h⟩ hD), q⟩
  · rintro i m Hc ⟨rfl, hil, F', acc, zs, hF, hH, hal, hr, nn, q⟩
    have gh := S.gh.trans (n1.hh.trans nn.hh)
    obtain ⟨t1, t2⟩ := itr i F' Hc nn.ff nn.fh gh
    by_cases hlt : i < ys.length
    · have hy : ys[i]? = some ys[i] := List.getElem?_eq_getElem hlt
      obtain ⟨go, yl⟩ := t1 _ hy
      rw [List.drop_eq_getElem_cons hlt] at q
      refine .inr ⟨go, fun Hd => ∃ F' acc zs, F' D = none ∧ Hd D = some (.lst acc) ∧ acc.length ≤ i + 1 ∧ Reps en' F' acc zs ∧ Nx F1 H1 F' Hd ∧
        mwp (compM (ys.drop (i + 1)) cm me) (fun rest => ∀ F' H' p vs, Nx F H F' H' → H p = none → F' p = none → H' p = some (.lst vs) → vs.length ≤ sizeLine → Reps en' F' vs (zs ++ rest) → Q (.ref p) H') Z.Er, fun Hd h => ⟨ys.length - (i + 1), by omega, rfl, hlt, h⟩, fun x H'' hx => ?_⟩
      obtain ⟨F2, n2, rx⟩ := yl x H'' hx
      have nnn := nn.trans n2
      have hF2 := n2.non hF (by rw [hH]; exact fun z => nomatch z)
      have hH2 := n2.hh _ _ hH
      have S2 := ((S.nx (n1.trans nnn)).wipe (own.map (·.2))).er (Er := fun _ => False)
      intro s H0 C cl fp
      refine hg s H0 C cl fp _ F2 ad _ _ H'' x ys[i] _ S2 rx fun σ3 S3 k1 k2 => ⟨?_, ?_⟩
      · rw [wipe_eq (σ := L2.wipe σ (own.map (·.2))) k1 fun i hi' => k2 i fun z => hi' (hi i z)]
        refine List.ext_getElem? fun i => ?_
        rw [wipe_get, wipe_get, wipe_length]
        split <;> rfl
      · refine hc ys[i] F2 ad σ3 H'' _ S3 ((mwp.nx (mwp.bi q)).imp fun b q F3 H3 n3 => ?_)
        have hF3 := n3.non hF2 (by rw [hH2]; exact fun z => nomatch z)
        have hH3 := n3.hh _ _ hH2
        cases b with
        | false => exact ⟨F3, acc, zs, hF3, hH3, by omega, hr.mono (n2.trans n3).ff, nnn.trans n3, q⟩
        | true =>
          rw [if_pos rfl]
          rw [if_pos rfl] at q
          intro s H0 C cl fp
          refine he ys[i] s H0 C cl fp F3 ad σ3 H3 _ (S3.nx n3) ((mwp.nx (mwp.bi q)).imp fun z q F4 H4 v n4 rv => ?_)
          have hF4 := n4.non hF3 (by rw [hH3]; exact fun z => nomatch z)
          have hH4 := n4.hh _ _ hH3
          have nf := (nnn.trans n3).trans n4
          refine ⟨acc, hH4, Nat.lt_of_le_of_lt hal (Nat.lt_of_lt_of_le hlt hz), F4, acc ++ [v], zs ++ [z], hF4, upd_same, by rw [List.length_append, List.length_singleton]; omega, (hr.mono ((n2.trans n3).trans n4).ff).snoc rv, ?_, ?_⟩
          · refine ⟨nf.ff, fun b o h => ?_, fun b o h => ?_, nf.nw⟩
            · rw [upd_ne (ne_of_none h hD)]
              exact nf.hh b o h
            · rw [upd_ne (ne_of_none h hF4)]
              exact nf.fh b o h
          · refine (mwp.bi q).imp fun rest q F' H' p vs n h1 h2 h3 hz' h4 => q F' H' p vs n h1 h2 h3 hz' ?_
            rw [List.append_assoc] at h4
            exact h4
    · have e : i = ys.length := by omega
      subst e
      rw [List.drop_length] at q
      have q : ∀ F' H' p vs, Nx F H F' H' → H p = none → F' p = none → H' p = some (.lst vs) → vs.length ≤ sizeLine → Reps en' F' vs (zs ++ []) → Q (.ref p) H' := q
      rw [List.append_nil] at q
      exact .inl ⟨t2 (Nat.le_refl _), q F' Hc D acc (n1.trans nn) g1 hF hH (Nat.le_trans hal hz) hr⟩
theorem pgAll (s : Shared) (H : Hp) (C : Addr) (cl : List (Str × Addr)) (fp : List Addr) : PG (X.blk s H scope (compEnvC scope cl C X.env) fp) tg (gAll X scope tg) := ⟨fun pins s' σ H' v u Q I r h => pg_w.run pins s' σ H' v u Q I r (h s H C cl fp)⟩
theorem peAll (s : Shared) (H : Hp) (C : Addr) (cl : List (Str × Addr)) (fp : List Addr) : PE (X.blk s H scope (compEnvC scope cl C X.env) fp) elt (eAll X scope elt) := ⟨fun pins s' σ H' Q I h => pe_w.run pins s' σ H' Q I (h s H C cl fp)⟩
theorem ptAll (s : Shared) (H : Hp) (C : Addr) (cl : List (Str × Addr)) (fp : List Addr) : PTs (X.blk s H scope (compEnvC scope cl C X.env) fp) [c] (tAll X scope c) := pts_one ⟨fun pins s' σ H' Q I h => pt_w.run pins s' σ H' Q I (h s H C cl fp)⟩
/-- [elt for tg in iter] -/
theorem fj_lc {en : Enc X.K β} {en' : Enc X.K α} {m : Res (List β)} {is : List Nat} {bd : β → List (Sl X.K) → List (Sl X.K)} {me : β → Res α} (am : Amb X Z k) (ok : BlkOk X.N X.env.scope scope own) (hs : SJ X Z sp tg iter m en)
    (hg : ∀ s H C cl fp, GJ (blkX X scope s H C cl fp) tg en is bd) (he : ∀ y s H C cl fp, EJ (blkX X scope s H C cl fp) Z.mute (blkS sp own bd y) elt (me y) en') (hi : ∀ i ∈ is, i ∈ own.map (·.2) := by decide)
    (hf : ∀ x, foldedSetIterable iter X.env x = pure x := by intro _; rfl) : FJ X Z sp (.ListComp elt [⟨tg, iter, [], 0⟩] scope pos) (m.bi fun ys => mapMx ys me) en' := fun F ad σ H Q S hm => by
  refine ofE (pe_lc am.calm am.nd pi_w ok pgAll (fun _ _ _ _ _ => pts_nil) peAll hf) ?_
  refine lc_ok (cm := fun _ => .ok true) hs hg hi (fun y F ad σ H Q S h => h F H S.refl) he F ad σ H Q S ?_
  rw [show (fun ys => compM ys (fun _ => .ok true) me) = (fun ys => mapMx ys me) from funext fun ys => compM_map me ys]
  exact hm
theorem fj_lc_p {en : Enc X.K β} {en' : Enc X.K α} {m : Res (List β)} {is : List Nat} {bd : β → List (Sl X.K) → List (Sl X.K)} {g : β → α} (am : Amb X Z k) (ok : BlkOk X.N X.env.scope scope own) (hs : SJ X Z sp tg iter m en)
    (hg : ∀ s H C cl fp, GJ (blkX X scope s H C cl fp) tg en is bd) (he : ∀ y s H C cl fp, EJ (blkX X scope s H C cl fp) Z.mute (blkS sp own bd y) elt (.ok (g y)) en') (hi : ∀ i ∈ is, i ∈ own.map (·.2) := by decide)
    (hf : ∀ x, foldedSetIterable iter X.env x = pure x := by intro _; rfl) : FJ X Z sp (.ListComp elt [⟨tg, iter, [], 0⟩] scope pos) (m.bi fun ys => .ok (ys.map g)) en' := fun F ad σ H Q S hm => by
  refine fj_lc am ok hs hg he hi hf F ad σ H Q S ?_
  rw [show (fun ys => mapMx ys fun y => .ok (g y)) = (fun ys => .ok (ys.map g)) from funext fun ys => mapMx_ok g ys]
  exact hm
/-- [elt for tg in iter if c] -/
theorem fj_lcif {en : Enc X.K β} {en' : Enc X.K α} {m : Res (List β)} {is : List Nat} {bd : β → List (Sl X.K) → List (Sl X.K)} {cm : β → Res Bool} {me : β → Res α} (am : Amb X Z k) (ok : BlkOk X.N X.env.scope scope own) (hs : SJ X Z sp tg iter m en)
    (hg : ∀ s H C cl fp, GJ (blkX X scope s H C cl fp) tg en is bd) (hc : ∀ y s H C cl fp, TJ (blkX X scope s H C cl fp) Z.mute (blkS sp own bd y) c (cm y)) (he : ∀ y s H C cl fp, EJ (blkX X scope s H C cl fp) Z.mute (blkS sp own bd y) elt (me y) en') (hi : ∀ i ∈ is, i ∈ own.map (·.2) := by decide)
    (hf : ∀ x, foldedSetIterable iter X.env x = pure x := by intro _; rfl) : FJ X Z sp (.ListComp elt [⟨tg, iter, [c], 0⟩] scope pos) (m.bi fun ys => compM ys cm me) en' := fun F ad σ H Q S hm => by
  refine ofE (pe_lc am.calm am.nd pi_w ok pgAll ptAll peAll hf) ?_
  exact lc_ok hs hg hi (fun y F ad σ H Q S h s H0 C cl fp => hc y s H0 C cl fp F ad σ H Q S h) he F ad σ H Q S hm
theorem fj_lcif_p {en : Enc X.K β} {en' : Enc X.K α} {m : Res (List β)} {is : List Nat} {bd : β → List (Sl X.K) → List (Sl X.K)} {cb : β → Bool} {g : β → α} (am : Amb X Z k) (ok : BlkOk X.N X.env.scope scope own) (hs : SJ X Z sp tg iter m en)
    (hg : ∀ s H C cl fp, GJ (blkX X scope s H C cl fp) tg en is bd) (hc : ∀ y s H C cl fp, TJ (blkX X scope s H C cl fp) Z.mute (blkS sp own bd y) c (.ok (cb y))) (he : ∀ y s H C cl fp, EJ (blkX X scope s H C cl fp) Z.mute (blkS sp own bd y) elt (.ok (g y)) en') (hi : ∀ i ∈ is, i ∈ own.map (·.2) := by decide)
    (hf : ∀ x, foldedSetIterable iter X.env x = pure x := by intro _; rfl) : FJ X Z sp (.ListComp elt [⟨tg, iter, [c], 0⟩] scope pos) (m.bi fun ys => .ok ((ys.filter cb).map g)) en' := fun F ad σ H Q S hm => by
  refine fj_lcif am ok hs hg hc he hi hf F ad σ H Q S ?_
  rw [show (fun ys => compM ys (fun y => .ok (cb y)) fun y => .ok (g y)) = (fun ys => .ok ((ys.filter cb).map g)) from funext fun ys => compM_ok cb g ys]
  exact hm
variable {Qr : ρ → Prop} {D : Ends} {rest : List Stmt} {m : Res ρ}
/-- y = [..] -/
theorem set_lc {en : Enc X.K β} {en' : Enc X.K α} {ms : Res (List β)} {is : List Nat} {bd : β → List (Sl X.K) → List (Sl X.K)} {cm : β → Res Bool} {me : β → Res α} {tt : TT} {ifs : List Expr} {i : Nat} {y : Str} {py spos : Pos} (am : Amb X Z k) (ok : BlkOk X.N X.env.scope scope own) (hs : SJ X Z sp tg iter ms en)
    (hg : ∀ s H C cl fp, GJ (blkX X scope s H C cl fp) tg en is bd) (ht : ∀ (s : Shared) (H : Hp) (C : Addr) (cl : List (Str × Addr)) (fp : List Addr), PTs (X.blk s H scope (compEnvC scope cl C X.env) fp) ifs tt)
    (hc : ∀ y F ad σ H (Q : Bool → Hp → Prop), SOk Z.mute F ad (blkS sp own bd y) σ H → mwp (cm y) (fun b => ∀ F' H', Nx F H F' H' → Q b H') (fun _ => False) → tt σ H Q)
    (he : ∀ y s H C cl fp, EJ (blkX X scope s H C cl fp) Z.mute (blkS sp own bd y) elt (me y) en') (hi : ∀ i ∈ is, i ∈ own.map (·.2)) (hy : X.N[i]? = some y) (hyl : X.env.scope.names.lookup y = some .local)
    (hsw : swapsWith (.ListComp elt [⟨tg, iter, ifs, 0⟩] scope pos) (some (.Name y py)) spos.line X.env = pure true) (hf : ∀ x, foldedSetIterable iter X.env x = pure x)
    (F : Hp) (ad : List Addr) (σ : Sg) (H : Hp) (S : SOk Z F ad sp σ H) (hm : mwp (ms.bi fun ys => compM ys cm me) (fun xs => ∀ F' H' p vs, Nx F H F' H' → H p = none → F' p = none → H' p = some (.lst vs) → vs.length ≤ sizeLine → Reps en' F' vs xs → wB X rest D (σ.set i (some (.ref p))) H') Z.Er) :
    wB X (.Assign [.Name y py] (.ListComp elt [⟨tg, iter, ifs, 0⟩] scope pos) spos :: rest) D σ H := by
  refine seq (ofS (ps_setLc am.calm am.nd hy hyl hsw pi_w ok pgAll ht peAll hf) ?_)
  exact lc_ok hs hg hi hc he F ad σ H (fun v H1 => gName i v σ H1 (wB X rest D)) S hm
/-- .. to be changed -/
theorem bj_lcO {en : Enc X.K β} {en' : Enc X.K α} {ms : Res (List β)} {is : List Nat} {bd : β → List (Sl X.K) → List (Sl X.K)} {me : β → Res α} {kk : List α → Res ρ} {i : Nat} {y : Str} {py spos : Pos} (am : Amb X Z k) (ok : BlkOk X.N X.env.scope scope own) (hs : SJ X Z sp tg iter ms en)
    (hg : ∀ s H C cl fp, GJ (blkX X scope s H C cl fp) tg en is bd) (he : ∀ y s H C cl fp, EJ (blkX X scope s H C cl fp) Z.mute (blkS sp own bd y) elt (me y) en') (hr : ∀ v, BJ X Z Qr D ⟨sp.sl.set i (.own sp.ob.length), sp.ob ++ [.lst none en' v]⟩ rest (kk v)) (hi : ∀ i ∈ is, i ∈ own.map (·.2) := by decide) (hy : X.N[i]? = some y := by rfl) (hyl : X.env.scope.names.lookup y = some .local := by rfl)
    (hsw : swapsWith (.ListComp elt [⟨tg, iter, [], 0⟩] scope pos) (some (.Name y py)) spos.line X.env = pure true := by exact sw_true rfl rfl rfl (by decide +kernel)) (hf : ∀ x, foldedSetIterable iter X.env x = pure x := by intro _; rfl) :
    BJ X Z Qr D sp (.Assign [.Name y py] (.ListComp elt [⟨tg, iter, [], 0⟩] scope pos) spos :: rest) ((ms.bi fun ys => mapMx ys me).bi kk) := fun F ad σ H S hm => by
  refine set_lc (cm := fun _ => .ok true) am ok hs hg (fun _ _ _ _ _ => pts_nil) (fun y F ad σ H Q S h => h F H S.refl) he hi hy hyl hsw hf F ad σ H S ?_
  rw [show (fun ys => compM ys (fun _ => .ok true) me) = (fun ys => mapMx ys me) from funext fun ys => compM_map me ys]
  exact hm.bi.imp fun v q F' H' p vs n h1 h2 h3 hz h4 => hr v F' (ad ++ [p]) _ H' ((S.push n h1 h2 h3 hz h4).set ⟨p, by rw [S.olen]; simp, rfl⟩) q
/-- .. to stay -/
theorem bj_lcF {en : Enc X.K β} {en' : Enc X.K α} {ms : Res (List β)} {is : List Nat} {bd : β → List (Sl X.K) → List (Sl X.K)} {me : β → Res α} {kk : List α → Res ρ} {i : Nat} {y : Str} {py spos : Pos} (am : Amb X Z k) (ok : BlkOk X.N X.env.scope scope own) (hs : SJ X Z sp tg iter ms en)
    (hg : ∀ s H C cl fp, GJ (blkX X scope s H C cl fp) tg en is bd) (he : ∀ y s H C cl fp, EJ (blkX X scope s H C cl fp) Z.mute (blkS sp own bd y) elt (me y) en') (hr : ∀ v, BJ X Z Qr D ⟨sp.sl.set i (.val (eL en') v), sp.ob⟩ rest (kk v)) (hi : ∀ i ∈ is, i ∈ own.map (·.2) := by decide) (hy : X.N[i]? = some y := by rfl) (hyl : X.env.scope.names.lookup y = some .local := by rfl)
    (hsw : swapsWith (.ListComp elt [⟨tg, iter, [], 0⟩] scope pos) (some (.Name y py)) spos.line X.env = pure true := by exact sw_true rfl rfl rfl (by decide +kernel)) (hf : ∀ x, foldedSetIterable iter X.env x = pure x := by intro _; rfl) :
    BJ X Z Qr D sp (.Assign [.Name y py] (.ListComp elt [⟨tg, iter, [], 0⟩] scope pos) spos :: rest) ((ms.bi fun ys => mapMx ys me).bi kk) := fun F ad σ H S hm => by
  refine set_lc (cm := fun _ => .ok true) am ok hs hg (fun _ _ _ _ _ => pts_nil) (fun y F ad σ H Q S h => h F H S.refl) he hi hy hyl hsw hf F ad σ H S ?_
  rw [show (fun ys => compM ys (fun _ => .ok true) me) = (fun ys => mapMx ys me) from funext fun ys => compM_map me ys]
  exact hm.bi.imp fun v q F' H' p vs n h1 h2 h3 hz h4 => hr v _ ad _ H' ((S.nx (n.fix h1 h2 h3)).set ⟨.ref p, rfl, p, vs, rfl, upd_same, hz, h4.mono (same_upd h2)⟩) q
theorem bj_lcO_p {en : Enc X.K β} {en' : Enc X.K α} {ms : Res (List β)} {is : List Nat} {bd : β → List (Sl X.K) → List (Sl X.K)} {g : β → α} {kk : List α → Res ρ} {i : Nat} {y : Str} {py spos : Pos} (am : Amb X Z k) (ok : BlkOk X.N X.env.scope scope own) (hs : SJ X Z sp tg iter ms en)
    (hg : ∀ s H C cl fp, GJ (blkX X scope s H C cl fp) tg en is bd) (he : ∀ y s H C cl fp, EJ (blkX X scope s H C cl fp) Z.mute (blkS sp own bd y) elt (.ok (g y)) en') (hr : ∀ v, BJ X Z Qr D ⟨sp.sl.set i (.own sp.ob.length), sp.ob ++ [.lst none en' v]⟩ rest (kk v)) (hi : ∀ i ∈ is, i ∈ own.map (·.2) := by decide) (hy : X.N[i]? = some y := by rfl) (hyl : X.env.scope.names.lookup y = some .local := by rfl)
    (hsw : swapsWith (.ListComp elt [⟨tg, iter, [], 0⟩] scope pos) (some (.Name y py)) spos.line X.env = pure true := by exact sw_true rfl rfl rfl (by decide +kernel)) (hf : ∀ x, foldedSetIterable iter X.env x = pure x := by intro _; rfl) :
    BJ X Z Qr D sp (.Assign [.Name y py] (.ListComp elt [⟨tg, iter, [], 0⟩] scope pos) spos :: rest) ((ms.bi fun ys => .ok (ys.map g)).bi kk) := fun F ad σ H S hm => bj_lcO am ok hs hg he hr hi hy hyl hsw hf F ad σ H S (by
  rw [show (fun ys => mapMx ys fun y => .ok (g y)) = (fun ys => .ok (ys.map g)) from funext fun ys => mapMx_ok g ys]
  exact hm)
theorem bj_lcF_p {en : Enc X.K β} {en' : Enc X.K α} {ms : Res (List β)} {is : List Nat} {bd : β → List (Sl X.K) → List (Sl X.K)} {g : β → α} {kk : List α → Res ρ} {i : Nat} {y : Str} {py spos : Pos} (am : Amb X Z k) (ok : BlkOk X.N X.env.scope scope own) (hs : SJ X Z sp tg iter ms en)
    (hg : ∀ s H C cl fp, GJ (blkX X scope s H C cl fp) tg en is bd) (he : ∀ y s H C cl fp, EJ (blkX X scope s H C cl fp) Z.mute (blkS sp own bd y) elt (.ok (g y)) en') (hr : ∀ v, BJ X Z Qr D ⟨sp.sl.set i (.val (eL en') v), sp.ob⟩ rest (kk v)) (hi : ∀ i ∈ is, i ∈ own.map (·.2) := by decide) (hy : X.N[i]? = some y := by rfl) (hyl : X.env.scope.names.lookup y = some .local := by rfl)
    (hsw : swapsWith (.ListComp elt [⟨tg, iter, [], 0⟩] scope pos) (some (.Name y py)) spos.line X.env = pure true := by exact sw_true rfl rfl rfl (by decide +kernel)) (hf : ∀ x, foldedSetIterable iter X.env x = pure x := by intro _; rfl) :
    BJ X Z Qr D sp (.Assign [.Name y py] (.ListComp elt [⟨tg, iter, [], 0⟩] scope pos) spos :: rest) ((ms.bi fun ys => .ok (ys.map g)).bi kk) := fun F ad σ H S hm => bj_lcF am ok hs hg he hr hi hy hyl hsw hf F ad σ H S (by
  rw [show (fun ys => mapMx ys fun y => .ok (g y)) = (fun ys => .ok (ys.map g)) from funext fun ys => mapMx_ok g ys]
  exact hm)
theorem bj_lcifO {en : Enc X.K β} {en' : Enc X.K α} {ms : Res (List β)} {is : List Nat} {bd : β → List (Sl X.K) → List (Sl X.K)} {cm : β → Res Bool} {me : β → Res α} {kk : List α → Res ρ} {i : Nat} {y : Str} {py spos : Pos} (am : Amb X Z k) (ok : BlkOk X.N X.env.scope scope own) (hs : SJ X Z sp tg iter ms en)
    (hg : ∀ s H C cl fp, GJ (blkX X scope s H C cl fp) tg en is bd) (hc : ∀ y s H C cl fp, TJ (blkX X scope s H C cl fp) Z.mute (blkS sp own bd y) c (cm y)) (he : ∀ y s H C cl fp, EJ (blkX X scope s H C cl fp) Z.mute (blkS sp own bd y) elt (me y) en') (hr : ∀ v, BJ X Z Qr D ⟨sp.sl.set i (.own sp.ob.length), sp.ob ++ [.lst none en' v]⟩ rest (kk v)) (hi : ∀ i ∈ is, i ∈ own.map (·.2) := by decide) (hy : X.N[i]? = some y := by rfl) (hyl : X.env.scope.names.lookup y = some .local := by rfl)
    (hsw : swapsWith (.ListComp elt [⟨tg, iter, [c], 0⟩] scope pos) (some (.Name y py)) spos.line X.env = pure true := by exact sw_true rfl rfl rfl (by decide +kernel)) (hf : ∀ x, foldedSetIterable iter X.env x = pure x := by intro _; rfl) :
    BJ X Z Qr D sp (.Assign [.Name y py] (.ListComp elt [⟨tg, iter, [c], 0⟩] scope pos) spos :: rest) ((ms.bi fun ys => compM ys cm me).bi kk) := fun F ad σ H S hm => by
  refine set_lc am ok hs hg ptAll (fun y F ad σ H Q S h s H0 C cl fp => hc y s H0 C cl fp F ad σ H Q S h) he hi hy hyl hsw hf F ad σ H S ?_
  exact hm.bi.imp fun v q F' H' p vs n h1 h2 h3 hz h4 => hr v F' (ad ++ [p]) _ H' ((S.push n h1 h2 h3 hz h4).set ⟨p, by rw [S.olen]; simp, rfl⟩) q
theorem bj_lcifF {en : Enc X.K β} {en' : Enc X.K α} {ms : Res (List β)} {is : List Nat} {bd : β → List (Sl X.K) → List (Sl X.K)} {cm : β → Res Bool} {me : β → Res α} {kk : List α → Res ρ} {i : Nat} {y : Str} {py spos : Pos} (am : Amb X Z k) (ok : BlkOk X.N X.env.scope scope own) (hs : SJ X Z sp tg iter ms en)
    (hg : ∀ s H C cl fp, GJ (blkX X scope s H C cl fp) tg en is bd) (hc : ∀ y s H C cl fp, TJ (blkX X scope s H C cl fp) Z.mute (blkS sp own bd y) c (cm y)) (he : ∀ y s H C cl fp, EJ (blkX X scope s H C cl fp) Z.mute (blkS sp own bd y) elt (me y) en') (hr : ∀ v, BJ X Z Qr D ⟨sp.sl.set i (.val (eL en') v), sp.ob⟩ rest (kk v)) (hi : ∀ i ∈ is, i ∈ own.map (·.2) := by decide) (hy : X.N[i]? = some y := by rfl) (hyl : X.env.scope.names.lookup y = some .local := by rfl)
    (hsw : swapsWith (.ListComp elt [⟨tg, iter, [c], 0⟩] scope pos) (some (.Name y py)) spos.line X.env = pure true := by exact sw_true rfl rfl rfl (by decide +kernel)) (hf : ∀ x, foldedSetIterable iter X.env x = pure x := by intro _; rfl) :
    BJ X Z Qr D sp (.Assign [.Name y py] (.ListComp elt [⟨tg, iter, [c], 0⟩] scope pos) spos :: rest) ((ms.bi fun ys => compM ys cm me).bi kk) := fun F ad σ H S hm => by
  refine set_lc am ok hs hg ptAll (fun y F ad σ H Q S h s H0 C cl fp => hc y s H0 C cl fp F ad σ H Q S h) he hi hy hyl hsw hf F ad σ H S ?_
  exact hm.bi.imp fun v q F' H' p vs n h1 h2 h3 hz h4 => hr v _ ad _ H' ((S.nx (n.fix h1 h2 h3)).set ⟨.ref p, rfl, p, vs, rfl, upd_same, hz, h4.mono (same_upd h2)⟩) q
theorem bj_lcifO_p {en : Enc X.K β} {en' : Enc X.K α} {ms : Res (List β)} {is : List Nat} {bd : β → List (Sl X.K) → List (Sl X.K)} {cb : β → Bool} {g : β → α} {kk : List α → Res ρ} {i : Nat} {y : Str} {py spos : Pos} (am : Amb X Z k) (ok : BlkOk X.N X.env.scope scope own) (hs : SJ X Z sp tg iter ms en)
    (hg : ∀ s H C cl fp, GJ (blkX X scope s H C cl fp) tg en is bd) (hc : ∀ y s H C cl fp, TJ (blkX X scope s H C cl fp) Z.mute (blkS sp own bd y) c (.ok (cb y))) (he : ∀ y s H C cl fp, EJ (blkX X scope s H C cl fp) Z.mute (blkS sp own bd y) elt (.ok (g y)) en') (hr : ∀ v, BJ X Z Qr D ⟨sp.sl.set i (.own sp.ob.length), sp.ob ++ [.lst none en' v]⟩ rest (kk v)) (hi : ∀ i ∈ is, i ∈ own.map (·.2) := by decide) (hy : X.N[i]? = some y := by rfl) (hyl : X.env.scope.names.lookup y = some .local := by rfl)
    (hsw : swapsWith (.ListComp elt [⟨tg, iter, [c], 0⟩] scope pos) (some (.Name y py)) spos.line X.env = pure true := by exact sw_true rfl rfl rfl (by decide +kernel)) (hf : ∀ x, foldedSetIterable iter X.env x = pure x := by intro _; rfl) :
    BJ X Z Qr D sp (.Assign [.Name y py] (.ListComp elt [⟨tg, iter, [c], 0⟩] scope pos) spos :: rest) ((ms.bi fun ys => .ok ((ys.filter cb).map g)).bi kk) := fun F ad σ H S hm => bj_lcifO am ok hs hg hc he hr hi hy hyl hsw hf F ad σ H S (by
  rw [show (fun ys => compM ys (fun y => .ok (cb y)) fun y => .ok (g y)) = (fun ys => .ok ((ys.filter cb).map g)) from funext fun ys => compM_ok cb g ys]
  exact hm)
theorem bj_lcifF_p {en : Enc X.K β} {en' : Enc X.K α} {ms : Res (List β)} {is : List Nat} {bd : β → List (Sl X.K) → List (Sl X.K)} {cb : β → Bool} {g : β → α} {kk : List α → Res ρ} {i : Nat} {y : Str} {py spos : Pos} (am : Amb X Z k) (ok : BlkOk X.N X.env.scope scope own) (hs : SJ X Z sp tg iter ms en)
    (hg : ∀ s H C cl fp, GJ (blkX X scope s H C cl fp) tg en is bd) (hc : ∀ y s H C cl fp, TJ (blkX X scope s H C cl fp) Z.mute (blkS sp own bd y) c (.ok (cb y))) (he : ∀ y s H C cl fp, EJ (blkX X scope s H C cl fp) Z.mute (blkS sp own bd y) elt (.ok (g y)) en') (hr : ∀ v, BJ X Z Qr D ⟨sp.sl.set i (.val (eL en') v), sp.ob⟩ rest (kk v)) (hi : ∀ i ∈ is, i ∈ own.map (·.2) := by decide) (hy : X.N[i]? = some y := by rfl) (hyl : X.env.scope.names.lookup y = some .local := by rfl)
    (hsw : swapsWith (.ListComp elt [⟨tg, iter, [c], 0⟩] scope pos) (some (.Name y py)) spos.line X.env = pure true := by exact sw_true rfl rfl rfl (by decide +kernel)) (hf : ∀ x, foldedSetIterable iter X.env x = pure x := by intro _; rfl) :
    BJ X Z Qr D sp (.Assign [.Name y py] (.ListComp elt [⟨tg, iter, [c], 0⟩] scope pos) spos :: rest) ((ms.bi fun ys => .ok ((ys.filter cb).map g)).bi kk) := fun F ad σ H S hm => bj_lcifF am ok hs hg hc he hr hi hy hyl hsw hf F ad σ H S (by
  rw [show (fun ys => compM ys (fun y => .ok (cb y)) fun y => .ok (g y)) = (fun ys => .ok ((ys.filter cb).map g)) from funext fun ys => compM_ok cb g ys]
  exact hm)
end
/-! ### a def -/
section
variable {P : Program} {w : World} {K : Frag} {mg : Str → Option Value} {base : Heap} {γ ρ : Type}
/-- a def's body by its mirror -/
theorem fn_ok {x qual : Str} {params : Arguments} {body : List Stmt} {scope : Scope} {f : Addr} {fd : FuncData} {N ps : List Str} {k : Nat} (F : FunD K x qual params body scope [] [] f fd) (S : FnScope N ps scope) {A : ArE K γ} {mf : γ → Res ρ} {R : RtE ρ} (hlen : ∀ g, (A.sl g).length = ps.length)
    (hb : ∀ (cdv : Value) (Ao : Around) (outer : List Env) (s : Shared) (H : Hp) (E : XK) (Z : Fz) (Qr : ρ → Prop) (D : Ends) (g : γ), Amb (cxOf (L2.CX P w) P w K mg base N qual scope f cdv Ao outer s H E) Z k → RT Z R Qr D.rt → (∀ v H', D.rt v H' → v = .non → ∀ σ, D.nx σ H') →
      BJ (cxOf (L2.CX P w) P w K mg base N qual scope f cdv Ao outer s H E) Z Qr D ⟨A.sl g ++ List.replicate (N.length - ps.length) .any, []⟩ body (mf g)) : FnOk P w K mg base (L2.CX P w) (k + 1) f fd ps (spF mg A mf R) := by
  refine F.ok S (fun vs H Q E h => ?_) fun cdv Ao outer s H vs Q E hr h => ?_
  · obtain ⟨F0, g, _, hA, _⟩ := h
    rw [(A.ok hA).1, hlen]
  · obtain ⟨F0, g, hF, hA, hm⟩ := h
    obtain ⟨hl, hs⟩ := A.ok hA
    refine ⟨_, pb_w, hb cdv Ao outer s H E ⟨F0, H, fun c => ∀ C H', mg c = some (.ref C) → Same H H' → E (.ref C) none H'⟩ (fun r => ∀ F' H' v, Nx F0 H F' H' → R H F' H' v r → Q v H') { nx := fun _ H' => Q .non H', rt := Q } g
      ⟨hr, rfl, S.nd, passes_of rfl, E, takes_of rfl rfl rfl rfl, fun c h C H' hC sm => h C H' hC sm⟩
      (fun r F' H' v f0 fh gh fg hr q => q F' H' v ⟨f0, gh, fh, fg⟩ hr) (fun v H' h e _ => by subst e; exact h) F0 [] _ H ?_ hm⟩
    refine ⟨Same.refl _, hF, Same.refl _, fun a h => .inl h, List.Pairwise.nil, (fun p h => nomatch h), ?_, fun i (s : Sl K) h => ?_, rfl, (fun k o h => by simp at h), Lf.nil fun _ _ _ _ _ h => by simp at h⟩
    · have e1 : (A.sl g ++ (List.replicate (N.length - ps.length) .any : List (Sl K))).length = ps.length + (N.length - ps.length) := by simp [hlen]
      have e2 : (L2.start N vs).length = vs.length + (N.length - vs.length) := by simp [L2.start]
      exact e1.trans (by rw [e2, hl, hlen])
    · have h : (A.sl g ++ (List.replicate (N.length - ps.length) .any : List (Sl K)))[i]? = some s := h
      have hv : vs.length = ps.length := by rw [hl, hlen]
      have e0 : L2.start N vs = vs.map some ++ List.replicate (N.length - vs.length) none := rfl
      by_cases hi : i < (A.sl g).length
      · rw [List.getElem?_append_left hi] at h
        obtain ⟨v, h1, h2⟩ := hs i s h
        refine ⟨some v, ?_, h2⟩
        rw [e0, List.getElem?_append_left (by rw [List.length_map]; omega), List.getElem?_map, h1]
        rfl
      · have hl2 := getElem?_some_of h
        rw [List.length_append, List.length_replicate] at hl2
        rw [List.getElem?_append_right (by omega)] at h
        have e : s = .any := by
          rw [List.getElem?_replicate] at h
          split at h
          · exact (Option.some.inj h).symm
          · cases h
        subst e
        refine ⟨none, ?_, trivial⟩
        rw [e0, List.getElem?_append_right (by rw [List.length_map]; omega), List.getElem?_replicate, if_pos (by rw [List.length_map]; omega)]
theorem cal_mk {x qual : Str} {params : Arguments} {body : List Stmt} {scope : Scope} {f : Addr} {fd : FuncData} {ps : List Str} {k : Nat} {sp : Sp} (F : FunD K x qual params body scope [] [] f fd) (ok : FnOk P w K mg base (L2.CX P w) k f fd ps sp) (hm : mg x = some (.ref f))
    (h : ∀ (kV doc pm : Value) (an : Option Addr) (cdv ct : Value) (us : List Value), us.length = ps.length → bindArgs (PySem.W.fnOf x qual params body scope .none kV doc pm an cdv ct) ⟨us, []⟩ = pure (ps.zip us)) : Cal P w K mg base x k sp :=
  ⟨f, fd, ps, ok, hm, F.kp, F.bindsN h⟩
end
/-- a law: its def by its mirror, and the mirror tells True -/
theorem walk_Z {l : PySem.W.OpenLaw} {n k : Nat} {q : Program} {loose : List Str} {XP : (Str → Option Value) → Heap → Prop} {YP : World → Heap → Prop} {d : DefRec} {x : Str} {m : List Int → Res Bool}
    (hn : l.most = some n) (hn2 : n ≤ sizeLine) (hdf : d.params.defaults = []) (hr : Room k callerA)
    (F : ∀ (w : World) (mg : Str → Option Value) (fa : Addr) (h : Heap), YP w h → h.Ns mainGlobals mg → mg d.name = some (.ref fa) →
      ∃ (K : Frag) (fd : FuncData), K.In h ∧ (∀ (s : Shared) (u : Value), BindsTo s fd ⟨[u], []⟩ [(x, u)]) ∧
        ∀ base : Heap, K.In base → base.Ns mainGlobals mg → FnOk l.prog w K mg base (L2.CX l.prog w) k fa fd [x] (spF mg (arL (eI (K := K)) ar0) (fun g => m g.1) (rtV (eB (K := K)))))
    (hm : ∀ ns : List Int, ns.length ≤ n → (∀ z ∈ ns, Builtin.Int.intBits z ≤ 1048576) → m ns = .ok true) :
    PySem.W.WalkO q loose XP YP l.row.toRowW d [] (fun f vs => PySem.call f vs) := by
  refine Att.attach_callB hn hdf fun w s₀ s₁ mg mb fa o pm cd doc a vs ns G Y ho hd hcd hmg hobj hints hlen hbits hg => ?_
  obtain ⟨K, fd, KX, hb, hF⟩ := F w mg fa _ Y G.T.g hmg
  refine law_call (CX := L2.CX l.prog w) (sp := spF mg (arL (eI (K := K)) ar0) (fun g => m g.1) (rtV (eB (K := K)))) KX G.T.g G.T.b G.T.builtins G.T.nolimit hg hobj hints (Nat.le_trans hlen hn2) hr hF hb (fun H hO hS => ?_) fun H e s' h => ?_
  · refine ⟨fun _ => none, (ns, ()), (fun b o e => nomatch e), ⟨a, ns.map V.int, [], rfl, hS, by rw [List.length_map]; exact Nat.le_trans hlen hn2, Reps.ofInt _, rfl⟩, ?_⟩
    show mwp (m ns) _ _
    rw [hm ns hlen hbits]
    exact fun F' H' v _ r => r
  · obtain ⟨_, _, _, _, _, _, _, _, _, _, _, _, z⟩ := h
    exact z.elim
end Wk

set_option Elab.async false
set_option linter.all false
set_option maxRecDepth 100000
set_option maxHeartbeats 4000000
namespace Wk
open PySem PySem.Spec PyProof.Rows L2
/-! ### equality at any depth -/
structure EqE {K : Frag} {α : Type} [DecidableEq α] (e : Enc K α) where
  dat : α → PyData
  dp : ∀ {F H : Hp} {v : V} {a : α}, Same F H → e.rep F v a → Dp K H v (dat a)
  pl : ∀ a, (dat a).plain = true
  eqv : ∀ a b, PyData.eqv (dat a) (dat b) = decide (a = b)
  dep : Nat
  le : ∀ a, (dat a).depth ≤ dep
structure EqR {K : Frag} {γ : Type} [DecidableEq γ] (r : VsE K γ) where
  dat : γ → List PyData
  dp : ∀ {F H : Hp} {vs : List V} {a : γ}, Same F H → r.rep F vs a → DpAll K H vs (dat a)
  pl : ∀ a, PyData.plainAll (dat a) = true
  eqv : ∀ a b, PyData.eqvAll (dat a) (dat b) = decide (a = b)
  dep : Nat
  le : ∀ a, PyData.depthAll (dat a) ≤ dep
section
variable {K : Frag} {α β γ : Type}
theorem beq_dec {α : Type} [BEq α] [LawfulBEq α] [DecidableEq α] (a b : α) : (a == b) = decide (a = b) := by
  rw [Bool.eq_iff_iff, beq_iff_eq, decide_eq_true_eq]
def eqI : EqE (eI (K := K)) := ⟨.int, fun {F H v a} s h => by
  have e : v = .int a := h
  subst e; exact .int a, fun _ => rfl, fun a b => by simp only [PyData.eqv]; exact beq_dec a b, 0, fun _ => Nat.le_refl _⟩
def eqB : EqE (eB (K := K)) := ⟨.bool, fun {F H v a} s h => by
  have e : v = .bl a := h
  subst e; exact .bl a, fun _ => rfl, fun a b => by simp only [PyData.eqv]; exact beq_dec a b, 0, fun _ => Nat.le_refl _⟩
def eqS : EqE (eS (K := K)) := ⟨.str, fun {F H v a} s h => by
  have e : v = .str a := h
  subst e; exact .str a, fun _ => rfl, fun a b => by
    simp only [PyData.eqv]
    exact beq_dec a b, 0, fun _ => Nat.le_refl _⟩
variable [DecidableEq α] [DecidableEq β] [DecidableEq γ]
theorem dpAll {e : Enc K α} (q : EqE e) {F H : Hp} (s : Same F H) : ∀ {vs : List V} {xs : List α}, Reps e F vs xs → DpAll K H vs (xs.map q.dat)
  | _, _, .nil => .nil
  | _, _, .cons r t => .cons (q.dp s r) (dpAll q s t)
theorem plAll {e : Enc K α} (q : EqE e) : ∀ xs : List α, PyData.plainAll (xs.map q.dat) = true
  | [] => rfl
  | x :: xs => by
    rw [List.map_cons]
    show (PyData.plain _ && PyData.plainAll _) = true
    rw [q.pl, plAll q xs]
    rfl
theorem eqvAll {e : Enc K α} (q : EqE e) : ∀ xs ys : List α, PyData.eqvAll (xs.map q.dat) (ys.map q.dat) = decide (xs = ys)
  | [], [] => by simp [PyData.eqvAll]
  | [], y :: ys => by simp [PyData.eqvAll]
  | x :: xs, [] => by simp [PyData.eqvAll]
  | x :: xs, y :: ys => by
    rw [List.map_cons, List.map_cons, PyData.eqvAll, q.eqv, eqvAll q xs ys]
    by_cases h : x = y
    · by_cases h2 : xs = ys
      · simp [h, h2]
      · simp [h2]
    · simp [h]
theorem depAll {e : Enc K α} (q : EqE e) : ∀ xs : List α, PyData.depthAll (xs.map q.dat) ≤ q.dep
  | [] => by simp [PyData.depthAll]
  | x :: xs => by
    rw [List.map_cons, PyData.depthAll]
    exact Nat.max_le.mpr ⟨q.le x, depAll q xs⟩
def eqL {e : Enc K α} (q : EqE e) : EqE (eL e) := ⟨fun xs => .list (xs.map q.dat), fun {F H v a} s h => by
  obtain ⟨p, vs, rfl, h2, _, h3⟩ := h
  exact .lst (SqL.of (s _ _ h2)) (dpAll q s h3), fun xs => plAll q xs, fun a b => by rw [PyData.eqv]; exact eqvAll q a b, q.dep + 1, fun xs => by
    rw [PyData.depth]
    have := depAll q xs
    omega⟩
def eqTL {e : Enc K α} (q : EqE e) : EqE (eTL e) := ⟨fun xs => .tuple (xs.map q.dat), fun {F H v a} s h => by
  obtain ⟨p, vs, rfl, h2, _, h3⟩ := h
  exact .tup (SqT.of (s _ _ h2)) (dpAll q s h3), fun xs => plAll q xs, fun a b => by rw [PyData.eqv]; exact eqvAll q a b, q.dep + 1, fun xs => by
    rw [PyData.depth]
    have := depAll q xs
    omega⟩
def eqv1 {e : Enc K α} (q : EqE e) : EqR (vs1 e) := ⟨fun a => [q.dat a], fun {F H vs a} s h => by
  obtain ⟨v, rfl, h⟩ := h
  exact .cons (q.dp s h) .nil, fun a => by
    show (PyData.plain _ && PyData.plainAll _) = true
    rw [q.pl]; rfl, fun a b => by
    rw [PyData.eqvAll, PyData.eqvAll, q.eqv, Bool.and_true], q.dep, fun a => by
    rw [PyData.depthAll, PyData.depthAll]
    exact Nat.max_le.mpr ⟨q.le a, Nat.zero_le _⟩⟩
def eqvC {e : Enc K α} {r : VsE K γ} (q : EqE e) (t : EqR r) : EqR (vsC e r) := ⟨fun g => q.dat g.1 :: t.dat g.2, fun {F H vs a} s h => by
  obtain ⟨v, ws, rfl, h1, h2⟩ := h
  exact .cons (q.dp s h1) (t.dp s h2), fun a => by
    show (PyData.plain _ && PyData.plainAll _) = true
    rw [q.pl, t.pl]; rfl, fun a b => by
    rw [PyData.eqvAll, q.eqv, t.eqv]
    obtain ⟨a1, a2⟩ := a
    obtain ⟨b1, b2⟩ := b
    by_cases h : a1 = b1
    · by_cases h2 : a2 = b2
      · simp [h, h2]
      · simp [h2]
    · simp [h], max q.dep t.dep, fun a => by
    rw [PyData.depthAll]
    have h1 := q.le a.1
    have h2 := t.le a.2
    have h3 := Nat.le_max_left q.dep t.dep
    have h4 := Nat.le_max_right q.dep t.dep
    exact Nat.max_le.mpr ⟨by omega, by omega⟩⟩
def eqT {r : VsE K γ} (t : EqR r) : EqE (eT r) := ⟨fun g => .tuple (t.dat g), fun {F H v a} s h => by
  obtain ⟨p, vs, rfl, h1, h2⟩ := h
  exact .tup (SqT.of (s _ _ h1)) (t.dp s h2), fun a => t.pl a, fun a b => by rw [PyData.eqv]; exact t.eqv a b, t.dep + 1, fun a => by
    rw [PyData.depth]
    have := t.le a
    omega⟩
/-- a list of a written row -/
def eH (r : VsE K γ) : Enc K γ := ⟨fun F v g => ∃ p vs, v = .ref p ∧ F p = some (.lst vs) ∧ r.rep F vs g, fun s ⟨p, vs, h1, h2, h3⟩ => ⟨p, vs, h1, s _ _ h2, r.mono s h3⟩⟩
def eqH {r : VsE K γ} (t : EqR r) : EqE (eH r) := ⟨fun g => .list (t.dat g), fun {F H v a} s h => by
  obtain ⟨p, vs, rfl, h1, h2⟩ := h
  exact .lst (SqL.of (s _ _ h1)) (t.dp s h2), fun a => t.pl a, fun a b => by rw [PyData.eqv]; exact t.eqv a b, t.dep + 1, fun a => by
    rw [PyData.depth]
    have := t.le a
    omega⟩
def eqO {e : Enc K α} (q : EqE e) (h1 : ∀ a, PyData.eqv .none (q.dat a) = false := by intro a; rfl) (h2 : ∀ a, PyData.eqv (q.dat a) .none = false := by intro a; rfl) : EqE (eO e) := ⟨fun o => match o with
  | none => .none
  | some a => q.dat a, fun {F H v a} s h => by
    cases a with
    | none =>
      have e : v = .non := h
      subst e; exact .non
    | some a => exact q.dp s h, fun a => by
    cases a with
    | none => rfl
    | some a => exact q.pl a, fun a b => by
    cases a with
    | none => cases b with
      | none => simp [PyData.eqv]
      | some b => simp [h1]
    | some a => cases b with
      | none => simp [h2]
      | some b => simp [q.eqv], q.dep, fun a => by
    cases a with
    | none => simp [PyData.depth]
    | some a => exact q.le a⟩
theorem anyAt {e : Enc K α} (q : EqE e) (x : α) : ∀ xs : List α, ((xs.map q.dat).any fun z => PyData.eqv z (q.dat x)) = decide (x ∈ xs)
  | [] => by simp
  | y :: ys => by
    rw [List.map_cons, List.any_cons, anyAt q x ys, q.eqv]
    by_cases h : y = x
    · simp [h]
    · by_cases h2 : x ∈ ys
      · simp [h2]
      · simp [h, h2]; exact fun z => absurd z.symm h
theorem nonH {r : VsE K γ} : NoN (eH r) := fun F v a h z => by
  obtain ⟨p, vs, e, _⟩ := h
  rw [e] at z; cases z
theorem tyH {r : VsE K γ} : TyE (eH r) "list" := fun F H v a s h => by
  obtain ⟨p, vs, rfl, h1, h2⟩ := h
  exact .base (.lst (s _ _ h1))
theorem tyTL {e : Enc K α} : TyE (eTL e) "tuple" := fun F H v a s h => by
  obtain ⟨p, vs, rfl, h1, hz, h2⟩ := h
  exact .base (.tup (s _ _ h1))
end
section
variable {X : Cx}
def rEqP (K : Frag) (n : Nat) : R2 := fun x y H Q => ∃ d e, Dp K H x d ∧ Dp K H y e ∧ d.plain = true ∧ e.plain = true ∧ d.depth ≤ n ∧ Q (.bl (PyData.eqv d e)) H
def rNeP (K : Frag) (n : Nat) : R2 := fun x y H Q => ∃ d e, Dp K H x d ∧ Dp K H y e ∧ d.plain = true ∧ e.plain = true ∧ d.depth ≤ n ∧ Q (.bl (!PyData.eqv d e)) H
theorem op_eqP {n : Nat} (hu : X.A.units + 64 < cLine) (hn : n ≤ 60) : OpR X (compareOp .Eq) (rEqP X.K n) := by
  intro pins s σ H x y v u Q I rx ry h
  obtain ⟨d, e, hd, he, sd, se, hl, q⟩ := h
  obtain ⟨as, r1⟩ := Dp.reads I d x v hd rx
  obtain ⟨bs, r2⟩ := Dp.reads I e y u he ry
  exact SeqAt.eq_plain r1 r2 sd se (by have := Nat.min_le_left d.depth e.depth; omega) ⟨.bl _, H, I, rfl, q⟩
theorem op_neP {n : Nat} (hu : X.A.units + 64 < cLine) (hn : n ≤ 60) : OpR X (compareOp .NotEq) (rNeP X.K n) := by
  intro pins s σ H x y v u Q I rx ry h
  obtain ⟨d, e, hd, he, sd, se, hl, q⟩ := h
  obtain ⟨as, r1⟩ := Dp.reads I d x v hd rx
  obtain ⟨bs, r2⟩ := Dp.reads I e y u he ry
  exact SeqAt.ne_plain r1 r2 sd se (by have := Nat.min_le_left d.depth e.depth; omega) ⟨.bl _, H, I, rfl, q⟩
def rInP (K : Frag) (n : Nat) : R2 := fun x y H Q => ∃ d ds, Dp K H x d ∧ Dp K H y (.list ds) ∧ d.plain = true ∧ PyData.plainAll ds = true ∧ d.depth ≤ n ∧ Q (.bl (ds.any fun z => PyData.eqv z d)) H
def rNotInP (K : Frag) (n : Nat) : R2 := fun x y H Q => ∃ d ds, Dp K H x d ∧ Dp K H y (.list ds) ∧ d.plain = true ∧ PyData.plainAll ds = true ∧ d.depth ≤ n ∧ Q (.bl (!ds.any fun z => PyData.eqv z d)) H
theorem op_inP {n : Nat} (hu : X.A.units + 64 < cLine) (hn : n ≤ 60) : OpR X (compareOp .In) (rInP X.K n) := by
  intro pins s σ H x y v u Q I rx ry h
  obtain ⟨d, ds, hd, he, sd, se, hl, q⟩ := h
  obtain ⟨as, r1⟩ := Dp.reads I d x v hd rx
  obtain ⟨bs, r2⟩ := Dp.reads I (.list ds) y u he ry
  exact SeqAt.in_list_data r2 r1 se sd (by have := Nat.min_le_right (PyData.depthAll ds) d.depth; omega) ⟨.bl _, H, I, rfl, q⟩
theorem op_notInP {n : Nat} (hu : X.A.units + 64 < cLine) (hn : n ≤ 60) : OpR X (compareOp .NotIn) (rNotInP X.K n) := by
  intro pins s σ H x y v u Q I rx ry h
  obtain ⟨d, ds, hd, he, sd, se, hl, q⟩ := h
  obtain ⟨as, r1⟩ := Dp.reads I d x v hd rx
  obtain ⟨bs, r2⟩ := Dp.reads I (.list ds) y u he ry
  exact SeqAt.notIn_list_data r2 r1 se sd (by have := Nat.min_le_right (PyData.depthAll ds) d.depth; omega) ⟨.bl _, H, I, rfl, q⟩
end
section
variable {X : Cx} {Z : Fz} {sp : Spec X.K} {a b c e : Expr} {es : List Expr} {pos p p2 fp : Pos} {α β γ ρ : Type} {op : CmpOp}
/-- a value that reads as data -/
def DJ (X : Cx) (Z : Fz) (sp : Spec X.K) (e : Expr) {α : Type} [DecidableEq α] (m : Res α) {en : Enc X.K α} (q : EqE en) : Prop :=
  ∀ (F : Hp) (ad : List Addr) (σ : Sg) (H : Hp) (Q : VK), SOk Z F ad sp σ H → mwp m (fun x => ∀ F' H' v, Nx F H F' H' → (∀ H'', Same H' H'' → Dp X.K H'' v (q.dat x)) → Q v H') Z.Er → wE X e σ H Q
theorem dj_ej [DecidableEq α] {en : Enc X.K α} {q : EqE en} {m : Res α} (h : EJ X Z sp e m en) : DJ X Z sp e m q := fun F ad σ H Q S hm =>
  h F ad σ H Q S (hm.imp fun x k F' H' v n r => k F' H' v n fun H'' s => q.dp (n.fh.trans s) r)
theorem dj_lj [DecidableEq α] {en : Enc X.K α} {q : EqE en} {m : Res (List α)} (h : LJ X Z sp e m en) : DJ X Z sp e m (eqL q) := fun F ad σ H Q S hm =>
  h F ad σ H Q S (hm.imp fun x k F' H' p vs n h1 hz r => k F' H' (.ref p) n fun H'' s => .lst (sqL_mono s h1) (dpAll q (n.fh.trans s) r))
theorem cj_eqD [DecidableEq α] {en : Enc X.K α} (hu : X.A.units + 64 < cLine) (q : EqE en) {ma mb : Res α} (ha : DJ X Z sp a ma q) (hb : DJ X Z sp b mb q) (hd : Nat.ble q.dep 60 = true := by rfl) : CJ X Z sp .Eq a b (ma.bi fun x => mb.bi fun y => .ok (decide (x = y))) := ⟨_, op_eqP hu (Nat.le_of_ble_eq_true hd), fun F ad σ H Q S hm => by
  refine ha F ad σ H _ S (hm.bi.imp fun x k F1 H1 v n1 r1 => ?_)
  refine hb F1 ad σ H1 _ (S.nx n1) (k.bi.imp fun y k F2 H2 u n2 r2 => ?_)
  refine ⟨_, _, r1 _ n2.hh, r2 _ (Same.refl _), q.pl _, q.pl _, q.le _, ?_⟩
  rw [q.eqv]
  exact k F2 H2 (n1.trans n2)⟩
theorem cj_neD [DecidableEq α] {en : Enc X.K α} (hu : X.A.units + 64 < cLine) (q : EqE en) {ma mb : Res α} (ha : DJ X Z sp a ma q) (hb : DJ X Z sp b mb q) (hd : Nat.ble q.dep 60 = true := by rfl) : CJ X Z sp .NotEq a b (ma.bi fun x => mb.bi fun y => .ok (!decide (x = y))) := ⟨_, op_neP hu (Nat.le_of_ble_eq_true hd), fun F ad σ H Q S hm => by
  refine ha F ad σ H _ S (hm.bi.imp fun x k F1 H1 v n1 r1 => ?_)
  refine hb F1 ad σ H1 _ (S.nx n1) (k.bi.imp fun y k F2 H2 u n2 r2 => ?_)
  refine ⟨_, _, r1 _ n2.hh, r2 _ (Same.refl _), q.pl _, q.pl _, q.le _, ?_⟩
  rw [q.eqv]
  exact k F2 H2 (n1.trans n2)⟩
theorem cj_eqD_p [DecidableEq α] {en : Enc X.K α} (hu : X.A.units + 64 < cLine) (q : EqE en) {x y : α} (ha : DJ X Z sp a (.ok x) q) (hb : DJ X Z sp b (.ok y) q) (hd : Nat.ble q.dep 60 = true := by rfl) : CJ X Z sp .Eq a b (.ok (decide (x = y))) := cj_eqD hu q ha hb hd
theorem cj_neD_p [DecidableEq α] {en : Enc X.K α} (hu : X.A.units + 64 < cLine) (q : EqE en) {x y : α} (ha : DJ X Z sp a (.ok x) q) (hb : DJ X Z sp b (.ok y) q) (hd : Nat.ble q.dep 60 = true := by rfl) : CJ X Z sp .NotEq a b (.ok (!decide (x = y))) := cj_neD hu q ha hb hd
theorem cj_inD [DecidableEq α] {en : Enc X.K α} (hu : X.A.units + 64 < cLine) (q : EqE en) {ma : Res α} {mb : Res (List α)} (ha : DJ X Z sp a ma q) (hb : LJ X Z sp b mb en) (hd : Nat.ble q.dep 60 = true := by rfl) : CJ X Z sp .In a b (ma.bi fun x => mb.bi fun xs => .ok (decide (x ∈ xs))) := ⟨_, op_inP hu (Nat.le_of_ble_eq_true hd), fun F ad σ H Q S hm => by
  refine ha F ad σ H _ S (hm.bi.imp fun x k F1 H1 v n1 r1 => ?_)
  refine hb F1 ad σ H1 _ (S.nx n1) (k.bi.imp fun y k F2 H2 p vs n2 h2 hz r2 => ?_)
  refine ⟨_, _, r1 _ n2.hh, .lst h2 (dpAll q n2.fh r2), q.pl _, plAll q _, q.le _, ?_⟩
  rw [anyAt]
  exact k F2 H2 (n1.trans n2)⟩
theorem cj_notInD [DecidableEq α] {en : Enc X.K α} (hu : X.A.units + 64 < cLine) (q : EqE en) {ma : Res α} {mb : Res (List α)} (ha : DJ X Z sp a ma q) (hb : LJ X Z sp b mb en) (hd : Nat.ble q.dep 60 = true := by rfl) : CJ X Z sp .NotIn a b (ma.bi fun x => mb.bi fun xs => .ok (!decide (x ∈ xs))) := ⟨_, op_notInP hu (Nat.le_of_ble_eq_true hd), fun F ad σ H Q S hm => by
  refine ha F ad σ H _ S (hm.bi.imp fun x k F1 H1 v n1 r1 => ?_)
  refine hb F1 ad σ H1 _ (S.nx n1) (k.bi.imp fun y k F2 H2 p vs n2 h2 hz r2 => ?_)
  refine ⟨_, _, r1 _ n2.hh, .lst h2 (dpAll q n2.fh r2), q.pl _, plAll q _, q.le _, ?_⟩
  rw [anyAt]
  exact k F2 H2 (n1.trans n2)⟩
theorem cj_inD_p [DecidableEq α] {en : Enc X.K α} (hu : X.A.units + 64 < cLine) (q : EqE en) {x : α} {xs : List α} (ha : DJ X Z sp a (.ok x) q) (hb : LJ X Z sp b (.ok xs) en) (hd : Nat.ble q.dep 60 = true := by rfl) : CJ X Z sp .In a b (.ok (decide (x ∈ xs))) := cj_inD hu q ha hb hd
theorem cj_notInD_p [DecidableEq α] {en : Enc X.K α} (hu : X.A.units + 64 < cLine) (q : EqE en) {x : α} {xs : List α} (ha : DJ X Z sp a (.ok x) q) (hb : LJ X Z sp b (.ok xs) en) (hd : Nat.ble q.dep 60 = true := by rfl) : CJ X Z sp .NotIn a b (.ok (!decide (x ∈ xs))) := cj_notInD hu q ha hb hd
/-! ### more -/
theorem ej_pow_p {x : Int} (n : Nat) {j : Nat} (ha : EJ X Z sp a (.ok x) eI) (hn : n ≤ 1000000 := by decide) : EJ X Z sp (.BinOp a .Pow (.Constant (.int (n : Int)) j p) pos) (powM x n) eI := ej_pow n ha hn
theorem ej_div_p {x y : Int} (ha : EJ X Z sp a (.ok x) eI) (hb : EJ X Z sp b (.ok y) eI) : EJ X Z sp (.BinOp a .FloorDiv b pos) (divM x y) eI := ej_div ha hb
theorem ej_mod_p {x y : Int} (ha : EJ X Z sp a (.ok x) eI) (hb : EJ X Z sp b (.ok y) eI) : EJ X Z sp (.BinOp a .Mod b pos) (modM x y) eI := ej_mod ha hb
theorem ej_lens_p {x : Str} (hm : X.mg "len" = none) (h : EJ X Z sp a (.ok x) eS) (hg : Gl X "len" := by rfl) (hn : nst a = true := by rfl) : EJ X Z sp (.Call (.Name "len" fp) [a] [] pos) (lenS x) eI := ej_lens hm h hg hn
theorem fj_listR {m : Res Int} (hm : X.mg "list" = none) (hm2 : X.mg "range" = none) (ha : EJ X Z sp a m eI) (hc : X.calm = true := by rfl) (hg : Gl X "list" := by rfl) (hg2 : Gl X "range" := by rfl) (hn : nst a = true := by rfl) : FJ X Z sp (.Call (.Name "list" fp) [.Call (.Name "range" p2) [a] [] p] [] pos) (m.bi rng1) eI := fun F ad σ H Q S hq => by
  refine ofE (pe_listRg hc hg hm (prg_1 hg2 hm2 pe_w (star_cons hn)) rfl) ?_
  refine ha F ad σ H _ S (hq.bi.imp fun i q F1 H1 v n1 r1 => ?_)
  obtain ⟨⟨c1, c2⟩, q⟩ := q.gd
  refine ⟨i, r1, ⟨by omega, by omega, c1, by omega, by omega⟩, fun l hl => ?_⟩
  obtain ⟨g1, g2⟩ := n1.free hl
  have e : rgV 0 i = (rangeL 0 i).map V.int := by
    unfold rgV rangeL
    rw [List.map_map]
    rfl
  rw [e]
  exact q F1 _ l _ (n1.new hl) g1 g2 upd_same (by rw [List.length_map, rangeL_length, sizeLine_eq]; omega) (Reps.ofInt _)
theorem fj_listR_p {n : Int} (hm : X.mg "list" = none) (hm2 : X.mg "range" = none) (ha : EJ X Z sp a (.ok n) eI) (hc : X.calm = true := by rfl) (hg : Gl X "list" := by rfl) (hg2 : Gl X "range" := by rfl) (hn : nst a = true := by rfl) : FJ X Z sp (.Call (.Name "list" fp) [.Call (.Name "range" p2) [a] [] p] [] pos) (rng1 n) eI := fj_listR hm hm2 ha hc hg hg2 hn
/-! ### lists of written rows -/
theorem ej_hl {r : VsE X.K γ} {m : Res γ} (h : VJ X Z sp es m r) (hl : es.length ≤ 1000 := by decide) : EJ X Z sp (.List es pos) m (eH r) := fun F ad σ H Q S hq => by
  refine ofE (pe_lst pa_w) ?_
  refine h F ad σ H _ S (hq.imp fun g q F1 H1 vs n1 r1 e => ?_)
  refine ⟨Nat.le_of_lt (small1000 (by omega)), fun l hl => ?_⟩
  obtain ⟨g1, g2⟩ := n1.free hl
  exact q (L2.upd F1 l (.lst vs)) _ (.ref l) ((n1.new hl).fix g1 g2 upd_same) ⟨l, vs, rfl, upd_same, r.mono (same_upd g2) r1⟩
theorem ej_hix {r : VsE X.K γ} {en : Enc X.K α} {f : γ → α} {ma : Res γ} (n : Nat) {j : Nat} (ha : EJ X Z sp a ma (eH r)) (hat : VAt r n en f) : EJ X Z sp (.Subscript a (.Constant (.int (n : Int)) j p) pos) (ma.bi fun g => .ok (f g)) en := fun F ad σ H Q S hm => by
  refine ofE (pe_ix ix_list pe_w pe_int fun _ _ => rfl) ?_
  refine ha F ad σ H _ S (hm.bi.imp fun g q F1 H1 v n1 r1 => ?_)
  obtain ⟨p, vs, rfl, h1, h2⟩ := r1
  obtain ⟨v, hv, rv⟩ := hat F1 vs g h2
  exact ⟨p, vs, n, v, rfl, rfl, SqL.of (n1.fh _ _ h1), atI_nat hv, q F1 H1 v n1 rv⟩
theorem ej_hix_p {r : VsE X.K γ} {en : Enc X.K α} {f : γ → α} {g : γ} (n : Nat) {j : Nat} (ha : EJ X Z sp a (.ok g) (eH r)) (hat : VAt r n en f) : EJ X Z sp (.Subscript a (.Constant (.int (n : Int)) j p) pos) (.ok (f g)) en := ej_hix n ha hat
end
section
variable {X : Cx} {Z : Fz} {sp : Spec X.K} {a b c e : Expr} {es : List Expr} {pos p p2 fp : Pos} {α β γ ρ : Type} {k j : Nat} {x : Str} {F F' H H' : Hp} {ad : List Addr} {σ : Sg} {Qr : ρ → Prop} {D : Ends} {st : Stmt} {st' rest body : List Stmt} {m : Res ρ}
/-- calls, the arguments as they are -/
theorem ej_call_p {A : ArE X.K γ} {mf : γ → Res ρ} {en : Enc X.K ρ} {g : γ} (am : Amb X Z k) (C : Cal X.prog X.w X.K X.mg X.base x j (spF X.mg A mf (rtV en))) (hj : j ≤ k) (ha : AJ X Z sp (e :: es) (.ok g) A) (hn : nst e = true := by rfl) (hg : Gl X x := by rfl)
    (hpl : (backTo pos (starEach es X.env)).any (·.1) = false := by rfl) (hdb : (x == ("__debug__" : Str)) = false := by decide) : EJ X Z sp (.Call (.Name x fp) (e :: es) [] pos) (mf g) en := ej_call am C hj ha hn hg hpl hdb
theorem fj_call_p {A : ArE X.K γ} {mf : γ → Res (List ρ)} {en : Enc X.K ρ} {g : γ} (am : Amb X Z k) (C : Cal X.prog X.w X.K X.mg X.base x j (spF X.mg A mf (rtN en))) (hj : j ≤ k) (ha : AJ X Z sp (e :: es) (.ok g) A) (hn : nst e = true := by rfl) (hg : Gl X x := by rfl)
    (hpl : (backTo pos (starEach es X.env)).any (·.1) = false := by rfl) (hdb : (x == ("__debug__" : Str)) = false := by decide) : FJ X Z sp (.Call (.Name x fp) (e :: es) [] pos) (mf g) en := fj_call am C hj ha hn hg hpl hdb
/-- a list of ours that stays from here on -/
def thaw {K : Frag} {α : Type} (k : Nat) (en : Enc K α) (xs : List α) : Sl K → Sl K
  | .own j => match Nat.beq j k with
    | true => .val (eL en) xs
    | false => .own j
  | s => s
theorem thaw_ok {K : Frag} {G : Hp} {p : Addr} {vs : List V} {en : Enc K α} {xs : List α} (hp : ad[k]? = some p) (hF : F p = none) (hz : vs.length ≤ sizeLine) (r : Reps en F vs xs) {s : Sl K} {o : Option V} (h : slOk G F ad s o) : slOk G (L2.upd F p (.lst vs)) ad (thaw k en xs s) o := by
  cases s with
  | any => trivial
  | val e a => exact slOk.mono (s := .val e a) (same_upd hF) h
  | bor e a => exact slOk.mono (s := .bor e a) (same_upd hF) h
  | own j =>
    show slOk G (L2.upd F p (.lst vs)) ad (match Nat.beq j k with
      | true => .val (eL en) xs
      | false => .own j) o
    cases q : Nat.beq j k with
    | false => exact h
    | true =>
      have e : j = k := Nat.eq_of_beq_eq_true q
      subst e
      obtain ⟨p', h1, h2⟩ := h
      rw [hp] at h1
      have e : p = p' := Option.some.inj h1
      subst e
      exact ⟨.ref p, h2, p, vs, rfl, upd_same, hz, r.mono (same_upd hF)⟩
theorem SOk.frz {t : Option Addr} {K : Frag} {sp : Spec K} {en : Enc K α} {xs : List α} (S : SOk Z F ad sp σ H) (ho : sp.ob[k]? = some (.lst t en xs)) : ∃ F', SOk Z F' ad ⟨sp.sl.map (thaw k en xs), sp.ob.set k .dead⟩ σ H := by
  obtain ⟨p, hp, vs, h1, hz, h2, h3, h4⟩ := S.ob k _ ho
  refine ⟨L2.upd F p (.lst vs), S.f0.trans (same_upd h3), fun b o h => ?_, S.gh, fun b h => ?_, S.nd, S.st, by simp [S.len], fun i s h => ?_, by simp [S.olen], fun i o h => ?_, S.lf.set hp S.nd (same_upd h3) (fun a ha z => by rw [upd_ne ha]; exact z) (fun _ _ => rfl) fun _ _ _ _ z => nomatch z⟩
  · by_cases e : b = p
    · subst e
      rw [upd_same] at h
      rw [h1]; exact h
    · rw [upd_ne e] at h
      exact S.fh b o h
  · by_cases e : b = p
    · subst e
      exact .inr h4.1
    · rw [upd_ne e] at h
      exact S.fg b h
  · have h : (sp.sl.map (thaw k en xs))[i]? = some s := h
    rw [List.getElem?_map] at h
    cases q : sp.sl[i]? with
    | none => rw [q] at h; cases h
    | some s0 =>
      rw [q] at h
      have e : thaw k en xs s0 = s := Option.some.inj h
      subst e
      obtain ⟨o, g1, g2⟩ := S.sl i s0 q
      exact ⟨o, g1, thaw_ok hp h3 hz h2 g2⟩
  · have h : (sp.ob.set k .dead)[i]? = some o := h
    by_cases e : i = k
    · subst e
      rw [List.getElem?_set_self (getElem?_some_of ho)] at h
      cases h
      exact ⟨p, hp, trivial⟩
    · rw [List.getElem?_set_ne (Ne.symm e)] at h
      obtain ⟨p', g1, g2⟩ := S.ob i o h
      refine ⟨p', g1, ?_⟩
      cases o with
      | dead => trivial
      | pk t' e' ys => trivial
      | gen t' e' ys =>
        obtain ⟨us, k1, k2, k3, k4⟩ := g2
        refine ⟨us, k1, e'.mono (same_upd h3) k2, ?_, k4⟩
        have ne : p' ≠ p := fun z => by
          subst z
          have hi := getElem?_some_of g1
          have hk := getElem?_some_of hp
          have e1 : ad[i] = p' := Option.some.inj ((List.getElem?_eq_getElem hi).symm.trans g1)
          have e2 : ad[k] = p' := Option.some.inj ((List.getElem?_eq_getElem hk).symm.trans hp)
          exact e ((List.getElem_inj S.nd).mp (e1.trans e2.symm))
        rw [upd_ne ne]
        exact k3
      | lst t' e' ys =>
        obtain ⟨us, k1, kz, k2, k3, k4⟩ := g2
        refine ⟨us, k1, kz, k2.mono (same_upd h3), ?_, k4⟩
        have ne : p' ≠ p := fun z => by
          subst z
          have hi := getElem?_some_of g1
          have hk := getElem?_some_of hp
          have e1 : ad[i] = p' := Option.some.inj ((List.getElem?_eq_getElem hi).symm.trans g1)
          have e2 : ad[k] = p' := Option.some.inj ((List.getElem?_eq_getElem hk).symm.trans hp)
          exact e ((List.getElem_inj S.nd).mp (e1.trans e2.symm))
        rw [upd_ne ne]
        exact k3
theorem bj_frz {t : Option Addr} {en : Enc X.K α} {xs : List α} (ho : sp.ob[k]? = some (.lst t en xs)) (hr : BJ X Z Qr D ⟨sp.sl.map (thaw k en xs), sp.ob.set k .dead⟩ st' m) : BJ X Z Qr D sp st' m := fun F ad σ H S hm =>
  let ⟨F', S'⟩ := S.frz ho
  hr F' ad σ H S' hm
theorem bj_augk {op : Operator} {f : Int → Int → Int} {me : Res Int} {kk : Int → Res ρ} {i : Nat} {u : Int} {pos' : Pos} (am : Amb X Z k) (ho : PIp X op (ipI f)) (hs : sp.sl[i]? = some (.val eI u)) (h : EJ X Z sp e me eI) (hr : ∀ v, BJ X Z Qr D ⟨sp.sl.set i (.val eI (f u v)), sp.ob⟩ rest (kk v))
    (hi : X.N[i]? = some x := by rfl) (hx : Loc X.env.scope x := by first | exact Or.inl rfl | exact Or.inr rfl) (hf : X.fn x = true ∨ X.env.scope.names.lookup x = some .local := by first | exact .inl rfl | exact .inr rfl) :
    BJ X Z Qr D sp (.AugAssign (.Name x pos') op e pos :: rest) (me.bi kk) := fun F ad σ H S hm => by
  refine seq (ofS (ps_aug am.nd hi hx pe_w ho hf) ?_)
  obtain ⟨o, h1, w, h2, h3⟩ := S.sl i _ hs
  refine ⟨w, by rw [h1, h2], ?_⟩
  refine h F ad σ H _ S (hm.bi.imp fun v q F' H' y n r => ?_)
  exact ⟨u, v, h3, r, hr v F' ad _ H' ((S.nx n).set ⟨_, rfl, rfl⟩) q⟩
/-- the end of a def that hands nothing back -/
theorem bj_end {Qr : Unit → Prop} (hR : RT Z (rtV (eU : Enc X.K Unit)) Qr D.rt) (hN : ∀ v H', D.rt v H' → v = .non → ∀ σ, D.nx σ H') : BJ X Z Qr D sp [] (.ok ()) := fun F ad σ H S hm =>
  ofB pss_nil (hN _ _ (hR () F H .non S.f0 S.fh S.gh S.fg rfl hm) rfl σ)
variable {elt tg iter : Expr} {scope : Scope} {own : List (Str × Nat)}
theorem fj_lc_pp {en : Enc X.K β} {en' : Enc X.K α} {ys0 : List β} {is : List Nat} {bd : β → List (Sl X.K) → List (Sl X.K)} {g : β → α} (am : Amb X Z k) (ok : BlkOk X.N X.env.scope scope own) (hs : SJ X Z sp tg iter (.ok ys0) en)
    (hg : ∀ s H C cl fp, GJ (blkX X scope s H C cl fp) tg en is bd) (he : ∀ y s H C cl fp, EJ (blkX X scope s H C cl fp) Z.mute (blkS sp own bd y) elt (.ok (g y)) en') (hi : ∀ i ∈ is, i ∈ own.map (·.2) := by decide)
    (hf : ∀ x, foldedSetIterable iter X.env x = pure x := by intro _; rfl) : FJ X Z sp (.ListComp elt [⟨tg, iter, [], 0⟩] scope pos) (Res.ok (ys0.map g)) en' := fj_lc_p am ok hs hg he hi hf
theorem fj_lc_sp {en : Enc X.K β} {en' : Enc X.K α} {ys0 : List β} {is : List Nat} {bd : β → List (Sl X.K) → List (Sl X.K)} {me : β → Res α} (am : Amb X Z k) (ok : BlkOk X.N X.env.scope scope own) (hs : SJ X Z sp tg iter (.ok ys0) en)
    (hg : ∀ s H C cl fp, GJ (blkX X scope s H C cl fp) tg en is bd) (he : ∀ y s H C cl fp, EJ (blkX X scope s H C cl fp) Z.mute (blkS sp own bd y) elt (me y) en') (hi : ∀ i ∈ is, i ∈ own.map (·.2) := by decide)
    (hf : ∀ x, foldedSetIterable iter X.env x = pure x := by intro _; rfl) : FJ X Z sp (.ListComp elt [⟨tg, iter, [], 0⟩] scope pos) (mapMx ys0 me) en' := fj_lc am ok hs hg he hi hf
theorem fj_lcif_pp {en : Enc X.K β} {en' : Enc X.K α} {ys0 : List β} {is : List Nat} {bd : β → List (Sl X.K) → List (Sl X.K)} {cb : β → Bool} {g : β → α} (am : Amb X Z k) (ok : BlkOk X.N X.env.scope scope own) (hs : SJ X Z sp tg iter (.ok ys0) en)
    (hg : ∀ s H C cl fp, GJ (blkX X scope s H C cl fp) tg en is bd) (hc : ∀ y s H C cl fp, TJ (blkX X scope s H C cl fp) Z.mute (blkS sp own bd y) c (.ok (cb y))) (he : ∀ y s H C cl fp, EJ (blkX X scope s H C cl fp) Z.mute (blkS sp own bd y) elt (.ok (g y)) en') (hi : ∀ i ∈ is, i ∈ own.map (·.2) := by decide)
    (hf : ∀ x, foldedSetIterable iter X.env x = pure x := by intro _; rfl) : FJ X Z sp (.ListComp elt [⟨tg, iter, [c], 0⟩] scope pos) (Res.ok ((ys0.filter cb).map g)) en' := fj_lcif_p am ok hs hg hc he hi hf
theorem fj_lcif_sp {en : Enc X.K β} {en' : Enc X.K α} {ys0 : List β} {is : List Nat} {bd : β → List (Sl X.K) → List (Sl X.K)} {cm : β → Res Bool} {me : β → Res α} (am : Amb X Z k) (ok : BlkOk X.N X.env.scope scope own) (hs : SJ X Z sp tg iter (.ok ys0) en)
    (hg : ∀ s H C cl fp, GJ (blkX X scope s H C cl fp) tg en is bd) (hc : ∀ y s H C cl fp, TJ (blkX X scope s H C cl fp) Z.mute (blkS sp own bd y) c (cm y)) (he : ∀ y s H C cl fp, EJ (blkX X scope s H C cl fp) Z.mute (blkS sp own bd y) elt (me y) en') (hi : ∀ i ∈ is, i ∈ own.map (·.2) := by decide)
    (hf : ∀ x, foldedSetIterable iter X.env x = pure x := by intro _; rfl) : FJ X Z sp (.ListComp elt [⟨tg, iter, [c], 0⟩] scope pos) (compM ys0 cm me) en' := fj_lcif am ok hs hg hc he hi hf
theorem bj_lcO_pp {en : Enc X.K β} {en' : Enc X.K α} {ys0 : List β} {is : List Nat} {bd : β → List (Sl X.K) → List (Sl X.K)} {g : β → α} {kk : List α → Res ρ} {i : Nat} {y : Str} {py spos : Pos} (am : Amb X Z k) (ok : BlkOk X.N X.env.scope scope own) (hs : SJ X Z sp tg iter (.ok ys0) en)
    (hg : ∀ s H C cl fp, GJ (blkX X scope s H C cl fp) tg en is bd) (he : ∀ y s H C cl fp, EJ (blkX X scope s H C cl fp) Z.mute (blkS sp own bd y) elt (.ok (g y)) en') (hr : ∀ v, BJ X Z Qr D ⟨sp.sl.set i (.own sp.ob.length), sp.ob ++ [.lst none en' v]⟩ rest (kk v)) (hi : ∀ i ∈ is, i ∈ own.map (·.2) := by decide) (hy : X.N[i]? = some y := by rfl) (hyl : X.env.scope.names.lookup y = some .local := by rfl)
    (hsw : swapsWith (.ListComp elt [⟨tg, iter, [], 0⟩] scope pos) (some (.Name y py)) spos.line X.env = pure true := by exact sw_true rfl rfl rfl (by decide +kernel)) (hf : ∀ x, foldedSetIterable iter X.env x = pure x := by intro _; rfl) :
    BJ X Z Qr D sp (.Assign [.Name y py] (.ListComp elt [⟨tg, iter, [], 0⟩] scope pos) spos :: rest) ((Res.ok (ys0.map g)).bi kk) := bj_lcO_p am ok hs hg he hr hi hy hyl hsw hf
theorem bj_lcO_sp {en : Enc X.K β} {en' : Enc X.K α} {ys0 : List β} {is : List Nat} {bd : β → List (Sl X.K) → List (Sl X.K)} {me : β → Res α} {kk : List α → Res ρ} {i : Nat} {y : Str} {py spos : Pos} (am : Amb X Z k) (ok : BlkOk X.N X.env.scope scope own) (hs : SJ X Z sp tg iter (.ok ys0) en)
    (hg : ∀ s H C cl fp, GJ (blkX X scope s H C cl fp) tg en is bd) (he : ∀ y s H C cl fp, EJ (blkX X scope s H C cl fp) Z.mute (blkS sp own bd y) elt (me y) en') (hr : ∀ v, BJ X Z Qr D ⟨sp.sl.set i (.own sp.ob.length), sp.ob ++ [.lst none en' v]⟩ rest (kk v)) (hi : ∀ i ∈ is, i ∈ own.map (·.2) := by decide) (hy : X.N[i]? = some y := by rfl) (hyl : X.env.scope.names.lookup y = some .local := by rfl)
    (hsw : swapsWith (.ListComp elt [⟨tg, iter, [], 0⟩] scope pos) (some (.Name y py)) spos.line X.env = pure true := by exact sw_true rfl rfl rfl (by decide +kernel)) (hf : ∀ x, foldedSetIterable iter X.env x = pure x := by intro _; rfl) :
    BJ X Z Qr D sp (.Assign [.Name y py] (.ListComp elt [⟨tg, iter, [], 0⟩] scope pos) spos :: rest) ((mapMx ys0 me).bi kk) := bj_lcO am ok hs hg he hr hi hy hyl hsw hf
theorem bj_lcF_pp {en : Enc X.K β} {en' : Enc X.K α} {ys0 : List β} {is : List Nat} {bd : β → List (Sl X.K) → List (Sl X.K)} {g : β → α} {kk : List α → Res ρ} {i : Nat} {y : Str} {py spos : Pos} (am : Amb X Z k) (ok : BlkOk X.N X.env.scope scope own) (hs : SJ X Z sp tg iter (.ok ys0) en)
    (hg : ∀ s H C cl fp, GJ (blkX X scope s H C cl fp) tg en is bd) (he : ∀ y s H C cl fp, EJ (blkX X scope s H C cl fp) Z.mute (blkS sp own bd y) elt (.ok (g y)) en') (hr : ∀ v, BJ X Z Qr D ⟨sp.sl.set i (.val (eL en') v), sp.ob⟩ rest (kk v)) (hi : ∀ i ∈ is, i ∈ own.map (·.2) := by decide) (hy : X.N[i]? = some y := by rfl) (hyl : X.env.scope.names.lookup y = some .local := by rfl)
    (hsw : swapsWith (.ListComp elt [⟨tg, iter, [], 0⟩] scope pos) (some (.Name y py)) spos.line X.env = pure true := by exact sw_true rfl rfl rfl (by decide +kernel)) (hf : ∀ x, foldedSetIterable iter X.env x = pure x := by intro _; rfl) :
    BJ X Z Qr D sp (.Assign [.Name y py] (.ListComp elt [⟨tg, iter, [], 0⟩] scope pos) spos :: rest) ((Res.ok (ys0.map g)).bi kk) := bj_lcF_p am ok hs hg he hr hi hy hyl hsw hf
theorem bj_lcF_sp {en : Enc X.K β} {en' : Enc X.K α} {ys0 : List β} {is : List Nat} {bd : β → List (Sl X.K) → List (Sl X.K)} {me : β → Res α} {kk : List α → Res ρ} {i : Nat} {y : Str} {py spos : Pos} (am : Amb X Z k) (ok : BlkOk X.N X.env.scope scope own) (hs : SJ X Z sp tg iter (.ok ys0) en)
    (hg : ∀ s H C cl fp, GJ (blkX X scope s H C cl fp) tg en is bd) (he : ∀ y s H C cl fp, EJ (blkX X scope s H C cl fp) Z.mute (blkS sp own bd y) elt (me y) en') (hr : ∀ v, BJ X Z Qr D ⟨sp.sl.set i (.val (eL en') v), sp.ob⟩ rest (kk v)) (hi : ∀ i ∈ is, i ∈ own.map (·.2) := by decide) (hy : X.N[i]? = some y := by rfl) (hyl : X.env.scope.names.lookup y = some .local := by rfl)
    (hsw : swapsWith (.ListComp elt [⟨tg, iter, [], 0⟩] scope pos) (some (.Name y py)) spos.line X.env = pure true := by exact sw_true rfl rfl rfl (by decide +kernel)) (hf : ∀ x, foldedSetIterable iter X.env x = pure x := by intro _; rfl) :
    BJ X Z Qr D sp (.Assign [.Name y py] (.ListComp elt [⟨tg, iter, [], 0⟩] scope pos) spos :: rest) ((mapMx ys0 me).bi kk) := bj_lcF am ok hs hg he hr hi hy hyl hsw hf
theorem bj_lcifO_pp {en : Enc X.K β} {en' : Enc X.K α} {ys0 : List β} {is : List Nat} {bd : β → List (Sl X.K) → List (Sl X.K)} {cb : β → Bool} {g : β → α} {kk : List α → Res ρ} {i : Nat} {y : Str} {py spos : Pos} (am : Amb X Z k) (ok : BlkOk X.N X.env.scope scope own) (hs : SJ X Z sp tg iter (.ok ys0) en)
    (hg : ∀ s H C cl fp, GJ (blkX X scope s H C cl fp) tg en is bd) (hc : ∀ y s H C cl fp, TJ (blkX X scope s H C cl fp) Z.mute (blkS sp own bd y) c (.ok (cb y))) (he : ∀ y s H C cl fp, EJ (blkX X scope s H C cl fp) Z.mute (blkS sp own bd y) elt (.ok (g y)) en') (hr : ∀ v, BJ X Z Qr D ⟨sp.sl.set i (.own sp.ob.length), sp.ob ++ [.lst none en' v]⟩ rest (kk v)) (hi : ∀ i ∈ is, i ∈ own.map (·.2) := by decide) (hy : X.N[i]? = some y := by rfl) (hyl : X.env.scope.names.lookup y = some .local := by rfl)
    (hsw : swapsWith (.ListComp elt [⟨tg, iter, [c], 0⟩] scope pos) (some (.Name y py)) spos.line X.env = pure true := by exact sw_true rfl rfl rfl (by decide +kernel)) (hf : ∀ x, foldedSetIterable iter X.env x = pure x := by intro _; rfl) :
    BJ X Z Qr D sp (.Assign [.Name y py] (.ListComp elt [⟨tg, iter, [c], 0⟩] scope pos) spos :: rest) ((Res.ok ((ys0.filter cb).map g)).bi kk) := bj_lcifO_p am ok hs hg hc he hr hi hy hyl hsw hf
theorem bj_lcifO_sp {en : Enc X.K β} {en' : Enc X.K α} {ys0 : List β} {is : List Nat} {bd : β → List (Sl X.K) → List (Sl X.K)} {cm : β → Res Bool} {me : β → Res α} {kk : List α → Res ρ} {i : Nat} {y : Str} {py spos : Pos} (am : Amb X Z k) (ok : BlkOk X.N X.env.scope scope own) (hs : SJ X Z sp tg iter (.ok ys0) en)
    (hg : ∀ s H C cl fp, GJ (blkX X scope s H C cl fp) tg en is bd) (hc : ∀ y s H C cl fp, TJ (blkX X scope s H C cl fp) Z.mute (blkS sp own bd y) c (cm y)) (he : ∀ y s H C cl fp, EJ (blkX X scope s H C cl fp) Z.mute (blkS sp own bd y) elt (me y) en') (hr : ∀ v, BJ X Z Qr D ⟨sp.sl.set i (.own sp.ob.length), sp.ob ++ [.lst none en' v]⟩ rest (kk v)) (hi : ∀ i ∈ is, i ∈ own.map (·.2) := by decide) (hy : X.N[i]? = some y := by rfl) (hyl : X.env.scope.names.lookup y = some .local := by rfl)
    (hsw : swapsWith (.ListComp elt [⟨tg, iter, [c], 0⟩] scope pos) (some (.Name y py)) spos.line X.env = pure true := by exact sw_true rfl rfl rfl (by decide +kernel)) (hf : ∀ x, foldedSetIterable iter X.env x = pure x := by intro _; rfl) :
    BJ X Z Qr D sp (.Assign [.Name y py] (.ListComp elt [⟨tg, iter, [c], 0⟩] scope pos) spos :: rest) ((compM ys0 cm me).bi kk) := bj_lcifO am ok hs hg hc he hr hi hy hyl hsw hf
theorem bj_lcifF_pp {en : Enc X.K β} {en' : Enc X.K α} {ys0 : List β} {is : List Nat} {bd : β → List (Sl X.K) → List (Sl X.K)} {cb : β → Bool} {g : β → α} {kk : List α → Res ρ} {i : Nat} {y : Str} {py spos : Pos} (am : Amb X Z k) (ok : BlkOk X.N X.env.scope scope own) (hs : SJ X Z sp tg iter (.ok ys0) en)
    (hg : ∀ s H C cl fp, GJ (blkX X scope s H C cl fp) tg en is bd) (hc : ∀ y s H C cl fp, TJ (blkX X scope s H C cl fp) Z.mute (blkS sp own bd y) c (.ok (cb y))) (he : ∀ y s H C cl fp, EJ (blkX X scope s H C cl fp) Z.mute (blkS sp own bd y) elt (.ok (g y)) en') (hr : ∀ v, BJ X Z Qr D ⟨sp.sl.set i (.val (eL en') v), sp.ob⟩ rest (kk v)) (hi : ∀ i ∈ is, i ∈ own.map (·.2) := by decide) (hy : X.N[i]? = some y := by rfl) (hyl : X.env.scope.names.lookup y = some .local := by rfl)
    (hsw : swapsWith (.ListComp elt [⟨tg, iter, [c], 0⟩] scope pos) (some (.Name y py)) spos.line X.env = pure true := by exact sw_true rfl rfl rfl (by decide +kernel)) (hf : ∀ x, foldedSetIterable iter X.env x = pure x := by intro _; rfl) :
    BJ X Z Qr D sp (.Assign [.Name y py] (.ListComp elt [⟨tg, iter, [c], 0⟩] scope pos) spos :: rest) ((Res.ok ((ys0.filter cb).map g)).bi kk) := bj_lcifF_p am ok hs hg hc he hr hi hy hyl hsw hf
theorem bj_lcifF_sp {en : Enc X.K β} {en' : Enc X.K α} {ys0 : List β} {is : List Nat} {bd : β → List (Sl X.K) → List (Sl X.K)} {cm : β → Res Bool} {me : β → Res α} {kk : List α → Res ρ} {i : Nat} {y : Str} {py spos : Pos} (am : Amb X Z k) (ok : BlkOk X.N X.env.scope scope own) (hs : SJ X Z sp tg iter (.ok ys0) en)
    (hg : ∀ s H C cl fp, GJ (blkX X scope s H C cl fp) tg en is bd) (hc : ∀ y s H C cl fp, TJ (blkX X scope s H C cl fp) Z.mute (blkS sp own bd y) c (cm y)) (he : ∀ y s H C cl fp, EJ (blkX X scope s H C cl fp) Z.mute (blkS sp own bd y) elt (me y) en') (hr : ∀ v, BJ X Z Qr D ⟨sp.sl.set i (.val (eL en') v), sp.ob⟩ rest (kk v)) (hi : ∀ i ∈ is, i ∈ own.map (·.2) := by decide) (hy : X.N[i]? = some y := by rfl) (hyl : X.env.scope.names.lookup y = some .local := by rfl)
    (hsw : swapsWith (.ListComp elt [⟨tg, iter, [c], 0⟩] scope pos) (some (.Name y py)) spos.line X.env = pure true := by exact sw_true rfl rfl rfl (by decide +kernel)) (hf : ∀ x, foldedSetIterable iter X.env x = pure x := by intro _; rfl) :
    BJ X Z Qr D sp (.Assign [.Name y py] (.ListComp elt [⟨tg, iter, [c], 0⟩] scope pos) spos :: rest) ((compM ys0 cm me).bi kk) := bj_lcifF am ok hs hg hc he hr hi hy hyl hsw hf
end
end Wk

set_option Elab.async false
set_option linter.all false
set_option maxRecDepth 100000
set_option maxHeartbeats 4000000
namespace Wk
open PySem PySem.Spec PyProof.Rows L2
section
variable {X : Cx} {Z : Fz} {sp : Spec X.K} {a b c e : Expr} {es : List Expr} {pos p p2 fp : Pos} {α β γ δ ρ : Type} {k j : Nat} {x : Str} {F F' H H' : Hp} {ad : List Addr} {σ : Sg} {Qr : ρ → Prop} {D : Ends} {st : Stmt} {st' rest body : List Stmt} {m : Res ρ} {t : Option Addr} {tg it : Expr}
/-! ### a list of ours, walked -/
theorem SOk.tag {K : Frag} {sp : Spec K} {en : Enc K α} {xs : List α} {p : Addr} (S : SOk Z F ad sp σ H) (ho : sp.ob[k]? = some (.lst t en xs)) (hp : ad[k]? = some p) (t' : Option Addr) (ht : ∀ q, t' = some q → p = q) : SOk Z F ad ⟨sp.sl, sp.ob.set k (.lst t' en xs)⟩ σ H := by
  refine ⟨S.f0, S.fh, S.gh, S.fg, S.nd, S.st, S.len, S.sl, by simp [S.olen], fun i o h => ?_, S.lf.set hp S.nd (Same.refl _) (fun _ _ z => z) (fun _ _ => rfl) fun _ _ _ _ z => nomatch z⟩
  have h : (sp.ob.set k (.lst t' en xs))[i]? = some o := h
  by_cases e : i = k
  · subst e
    rw [List.getElem?_set_self (getElem?_some_of ho)] at h
    cases h
    obtain ⟨p', h1, vs, h2, hz, h3, h4, h5, _⟩ := S.ob i _ ho
    rw [hp] at h1
    have e : p = p' := Option.some.inj h1
    subst e
    exact ⟨p, hp, vs, h2, hz, h3, h4, h5, ht⟩
  · rw [List.getElem?_set_ne (Ne.symm e)] at h
    exact S.ob i o h
theorem bj_untag {en : Enc X.K α} {xs : List α} (ho : sp.ob[k]? = some (.lst t en xs)) (hr : BJ X Z Qr D ⟨sp.sl, sp.ob.set k (.lst none en xs)⟩ st' m) : BJ X Z Qr D sp st' m := fun F ad σ H S hm => by
  obtain ⟨p, hp, _⟩ := S.ob k _ ho
  exact hr F ad σ H (S.tag ho hp none fun q z => nomatch z) hm
theorem bj_forO {S : Type} {en : Enc X.K β} {ys : List β} {is : List Nat} {bd : β → List (Sl X.K) → List (Sl X.K)} {sps : Addr → S → Spec X.K} {B : β → S → (S → Res ρ) → Res ρ} {kk : S → Res ρ} {i o o2 : Nat} (am : Amb X Z k) (s0 : S) (hs : sp.sl[i]? = some (.own o)) (ho : sp.ob[o]? = some (.lst t en ys)) (hg : GJ X tg en is bd) {ks : List Nat}
    (le : ∀ q, Le ⟨sp.sl, sp.ob.set o (.lst (some q) en ys)⟩ (sps q s0) ks) (ho2 : ∀ q s, (sps q s).ob[o2]? = some (.lst (some q) en ys))
    (hb : ∀ q Z', ZX Z Z' → ∀ y s (next : S → Res ρ) nx bk, NX X Z' Qr nx (sps q) next → NX X Z' Qr bk (sps q) kk → BJ X Z' Qr { D with nx := nx, ct := nx, bk := bk } ⟨bd y (sps q s).sl, (sps q s).ob⟩ body (B y s next))
    (hr : ∀ q s, BJ X Z Qr D (sps q s) rest (kk s)) (hN : X.N[i]? = some x := by rfl)
    (hv : Vis X.env.scope x := by first | exact Or.inl rfl | exact Or.inr (Or.inl rfl) | exact Or.inr (Or.inr rfl)) (hd : (x == ("__debug__" : Str)) = false := by decide) (hcd : (x == ("__classdict__" : Str)) = false := by decide)
    (hf : ∀ y, foldedSetIterable (.Name x p) X.env y = pure y := by intro _; rfl) : BJ X Z Qr D sp (.For tg (.Name x p) body [] pos :: rest) (loopC ys s0 B kk) := fun F ad σ H S q => by
  refine seq (ofS (ps_for am.po am.calm (pi_list (pe_var (i := i) hN hv hd hcd)) pg_w pb_w hf) ?_)
  obtain ⟨q0, vs, h1, h2, h3, hz, h4, h5, h6, ht⟩ := S.own hs ho
  refine ⟨.ref q0, h1, q0, rfl, ⟨vs, SqL.of h3⟩, ?_⟩
  obtain ⟨zx, S1⟩ := (S.tag ho h2 (some q0) fun q z => Option.some.inj z).fwd
  refine ⟨fun i m σ' H' => m = ys.length - i ∧ i ≤ ys.length ∧ ∃ F' ad' s, SOk { Z with F0 := F } F' ad' (sps q0 s) σ' H' ∧ mwp (loopC (ys.drop i) s B kk) Qr Z.Er, ?_, ?_⟩
  · obtain ⟨ad', S'⟩ := (le q0).go _ F ad σ H S1
    exact ⟨_, rfl, Nat.zero_le _, F, ad', s0, S', q⟩
  · rintro i m σ' H' ⟨rfl, hi, F', ad', s, S', q⟩
    obtain ⟨q1, k1, ws, k2, _, k3, _, _, k4⟩ := S'.ob _ _ (ho2 q0 s)
    have e1 := k4 q0 rfl
    subst e1
    have hq : SqL X.K H' q1 ws := SqL.of k2
    by_cases hlt : i < ys.length
    · have hy : ys[i]? = some ys[i] := List.getElem?_eq_getElem hlt
      rw [List.drop_eq_getElem_cons hlt] at q
      obtain ⟨v, g1, g2⟩ := k3.get hy
      refine .inr ⟨⟨ws, v, hq, g1⟩, fun σ2 H2 => ∃ F2 ad2 s2, SOk { Z with F0 := F } F2 ad2 (sps q1 s2) σ2 H2 ∧ mwp (loopC (ys.drop (i + 1)) s2 B kk) Qr Z.Er, fun σ2 H2 ⟨F2, ad2, s2, S2, q2⟩ => ⟨ys.length - (i + 1), by omega, rfl, hlt, F2, ad2, s2, S2, q2⟩, fun x H'' hx => ?_⟩
      obtain ⟨rfl, g3⟩ := hx
      have e2 : v = x := Option.some.inj (g1.symm.trans (g3 ws hq))
      subst e2
      refine hg _ F' ad' (sps q1 s) σ' H'' v ys[i] _ S' g2 fun σ3 S3 _ _ => ?_
      exact hb q1 _ zx ys[i] s (fun s' => loopC (ys.drop (i + 1)) s' B kk) _ _ (fun s2 F2 ad2 σ2 H2 S2 q2 => ⟨F2, ad2, s2, S2, q2⟩) (fun s2 F2 ad2 σ2 H2 S2 q2 => hr q1 s2 F2 ad2 σ2 H2 (S2.back zx) q2) F' ad' σ3 H'' S3 q
    · have e : i = ys.length := by omega
      subst e
      rw [List.drop_length] at q
      exact .inl ⟨⟨ws, hq, by rw [k3.length]; exact Nat.le_refl _⟩, hr q1 s F' ad' σ' H' (S'.back zx) q⟩
theorem bj_forsO {S : Type} {en : Enc X.K β} {ys : List β} {is : List Nat} {bd : β → List (Sl X.K) → List (Sl X.K)} {sps : Addr → S → Spec X.K} {B : β → S → Res S} {kk : S → Res ρ} {i o o2 : Nat} (am : Amb X Z k) (s0 : S) (hs : sp.sl[i]? = some (.own o)) (ho : sp.ob[o]? = some (.lst t en ys)) (hg : GJ X tg en is bd) {ks : List Nat}
    (le : ∀ q, Le ⟨sp.sl, sp.ob.set o (.lst (some q) en ys)⟩ (sps q s0) ks) (ho2 : ∀ q s, (sps q s).ob[o2]? = some (.lst (some q) en ys))
    (hb : ∀ q Z', ZX Z Z' → ∀ y s (Q' : S → Prop) (D' : Ends), NX X Z' Q' D'.nx (sps q) .ok → BJ X Z' Q' D' ⟨bd y (sps q s).sl, (sps q s).ob⟩ body (B y s))
    (hr : ∀ q s, BJ X Z Qr D (sps q s) rest (kk s)) (hN : X.N[i]? = some x := by rfl)
    (hv : Vis X.env.scope x := by first | exact Or.inl rfl | exact Or.inr (Or.inl rfl) | exact Or.inr (Or.inr rfl)) (hd : (x == ("__debug__" : Str)) = false := by decide) (hcd : (x == ("__classdict__" : Str)) = false := by decide)
    (hf : ∀ y, foldedSetIterable (.Name x p) X.env y = pure y := by intro _; rfl) : BJ X Z Qr D sp (.For tg (.Name x p) body [] pos :: rest) ((foldM ys s0 B).bi kk) := fun F ad σ H S q => by
  refine seq (ofS (ps_for am.po am.calm (pi_list (pe_var (i := i) hN hv hd hcd)) pg_w pb_w hf) ?_)
  obtain ⟨q0, vs, h1, h2, h3, hz, h4, h5, h6, ht⟩ := S.own hs ho
  refine ⟨.ref q0, h1, q0, rfl, ⟨vs, SqL.of h3⟩, ?_⟩
  obtain ⟨zx, S1⟩ := (S.tag ho h2 (some q0) fun q z => Option.some.inj z).fwd
  refine ⟨fun i m σ' H' => m = ys.length - i ∧ i ≤ ys.length ∧ ∃ F' ad' s, SOk { Z with F0 := F } F' ad' (sps q0 s) σ' H' ∧ mwp ((foldM (ys.drop i) s B).bi kk) Qr Z.Er, ?_, ?_⟩
  · obtain ⟨ad', S'⟩ := (le q0).go _ F ad σ H S1
    exact ⟨_, rfl, Nat.zero_le _, F, ad', s0, S', q⟩
  · rintro i m σ' H' ⟨rfl, hi, F', ad', s, S', q⟩
    obtain ⟨q1, k1, ws, k2, _, k3, _, _, k4⟩ := S'.ob _ _ (ho2 q0 s)
    have e1 := k4 q0 rfl
    subst e1
    have hq : SqL X.K H' q1 ws := SqL.of k2
    by_cases hlt : i < ys.length
    · have hy : ys[i]? = some ys[i] := List.getElem?_eq_getElem hlt
      rw [List.drop_eq_getElem_cons hlt] at q
      have q : mwp (((B ys[i] s).bi fun s' => foldM (ys.drop (i + 1)) s' B).bi kk) Qr Z.Er := q
      rw [bi_bi] at q
      obtain ⟨v, g1, g2⟩ := k3.get hy
      refine .inr ⟨⟨ws, v, hq, g1⟩, fun σ2 H2 => ∃ F2 ad2 s2, SOk { Z with F0 := F } F2 ad2 (sps q1 s2) σ2 H2 ∧ mwp ((foldM (ys.drop (i + 1)) s2 B).bi kk) Qr Z.Er, fun σ2 H2 ⟨F2, ad2, s2, S2, q2⟩ => ⟨ys.length - (i + 1), by omega, rfl, hlt, F2, ad2, s2, S2, q2⟩, fun x H'' hx => ?_⟩
      obtain ⟨rfl, g3⟩ := hx
      have e2 : v = x := Option.some.inj (g1.symm.trans (g3 ws hq))
      subst e2
      refine hg _ F' ad' (sps q1 s) σ' H'' v ys[i] _ S' g2 fun σ3 S3 _ _ => ?_
      exact hb q1 _ zx ys[i] s (fun s' => mwp ((foldM (ys.drop (i + 1)) s' B).bi kk) Qr Z.Er) { D with nx := _, ct := _, bk := wB X rest D } (fun s2 F2 ad2 σ2 H2 S2 q2 => ⟨F2, ad2, s2, S2, q2⟩) F' ad' σ3 H'' S3 q.bi
    · have e : i = ys.length := by omega
      subst e
      rw [List.drop_length] at q
      exact .inl ⟨⟨ws, hq, by rw [k3.length]; exact Nat.le_refl _⟩, hr q1 s F' ad' σ' H' (S'.back zx) q⟩
end
end Wk

set_option Elab.async false
set_option linter.all false
set_option maxRecDepth 100000
set_option maxHeartbeats 4000000
namespace Wk
open PySem PySem.Spec PyProof.Rows L2
/-! ### defs that change what is handed in -/
def Sl.up {K : Frag} : Sl K → Sl K
  | .own k => .own (k + 1)
  | s => s
/-- a row of arguments, some of them lists that may be changed -/
structure ArM (K : Frag) (γ : Type) where
  rep : Hp → Hp → Hp → List Addr → List V → γ → Prop
  sl : γ → List (Sl K)
  ob : List Addr → γ → List (Ob K)
  ok : ∀ {F G H : Hp} {ad : List Addr} {vs : List V} {g : γ}, rep F G H ad vs g → vs.length = (sl g).length ∧ (∀ (i : Nat) (s : Sl K), (sl g)[i]? = some s → ∃ v, vs[i]? = some v ∧ slOk G F ad s (some v)) ∧
    (ob ad g).length = ad.length ∧ ∀ (k : Nat) (o : Ob K), (ob ad g)[k]? = some o → (∃ p, ad[k]? = some p ∧ obOk G F H o p) ∧ ∀ (α : Type) (t : Option Addr) (e : PkE K α) (xss : α), o ≠ .pk t e xss
section
variable {K : Frag} {α β γ δ ρ : Type}
theorem slOk.up {G F : Hp} {ad : List Addr} {p : Addr} {s : Sl K} {o : Option V} (h : slOk G F ad s o) : slOk G F (p :: ad) s.up o := by
  cases s with
  | any => trivial
  | val e a => exact h
  | bor e xs => exact h
  | own k => exact h
def am0 : ArM K Unit := ⟨fun _ _ _ ad vs _ => vs = [] ∧ ad = [], fun _ => [], fun _ _ => [], fun ⟨h, h2⟩ => by
  subst h h2
  exact ⟨rfl, fun i s e => by simp at e, rfl, fun k o e => by simp at e⟩⟩
def amV (e : Enc K α) (r : ArM K γ) : ArM K (α × γ) := ⟨fun F G H ad vs g => ∃ v ws, vs = v :: ws ∧ e.rep F v g.1 ∧ r.rep F G H ad ws g.2, fun g => .val e g.1 :: r.sl g.2, fun ad g => r.ob ad g.2, fun ⟨v, ws, h1, h2, h3⟩ => by
  subst h1
  obtain ⟨k1, k2, k3⟩ := r.ok h3
  refine ⟨by rw [List.length_cons, List.length_cons, k1], fun i s e => ?_, k3⟩
  cases i with
  | zero =>
    simp at e
    subst e
    exact ⟨v, rfl, v, rfl, h2⟩
  | succ i =>
    obtain ⟨u, q1, q2⟩ := k2 i s (by simpa using e)
    exact ⟨u, by simpa using q1, q2⟩⟩
def amL (e : Enc K α) (r : ArM K γ) : ArM K (List α × γ) := ⟨fun F G H ad vs g => ∃ p us ws, vs = .ref p :: ws ∧ SqL K G p us ∧ us.length ≤ sizeLine ∧ Reps e F us g.1 ∧ r.rep F G H ad ws g.2, fun g => .bor e g.1 :: r.sl g.2, fun ad g => r.ob ad g.2, fun ⟨p, us, ws, h1, h2, hz, h3, h4⟩ => by
  subst h1
  obtain ⟨k1, k2, k3⟩ := r.ok h4
  refine ⟨by rw [List.length_cons, List.length_cons, k1], fun i s e => ?_, k3⟩
  cases i with
  | zero =>
    simp at e
    subst e
    exact ⟨.ref p, rfl, p, us, rfl, h2, hz, h3⟩
  | succ i =>
    obtain ⟨u, q1, q2⟩ := k2 i s (by simpa using e)
    exact ⟨u, by simpa using q1, q2⟩⟩
/-- a list that may be changed; tg: whether the caller looks at it again -/
def amM (tg : Bool) (e : Enc K α) (r : ArM K γ) : ArM K (List α × γ) := ⟨fun F G H ad vs g => ∃ p us ws ad', vs = .ref p :: ws ∧ ad = p :: ad' ∧ H p = some (.lst us) ∧ us.length ≤ sizeLine ∧ Reps e F us g.1 ∧ F p = none ∧ G p = none ∧ r.rep F G H ad' ws g.2, fun g => .own 0 :: (r.sl g.2).map Sl.up,
  fun ad g => .lst (match tg with
    | true => ad.head?
    | false => none) e g.1 :: r.ob ad.tail g.2, fun {F G H ad vs g} ⟨p, us, ws, ad', h1, h0, h2, hz, h3, h5, h6, h4⟩ => by
  subst h1 h0
  obtain ⟨k1, k2, k3, k4⟩ := r.ok h4
  refine ⟨by rw [List.length_cons, List.length_cons, List.length_map, k1], fun i s e => ?_, by rw [List.length_cons, List.length_cons]; exact congrArg (· + 1) k3, fun k o e => ?_⟩
  · cases i with
    | zero =>
      simp at e
      subst e
      exact ⟨.ref p, rfl, p, rfl, rfl⟩
    | succ i =>
      have e : ((r.sl g.2).map Sl.up)[i]? = some s := by simpa using e
      rw [List.getElem?_map] at e
      cases q : (r.sl g.2)[i]? with
      | none => rw [q] at e; cases e
      | some s0 =>
        rw [q] at e
        have e : s0.up = s := Option.some.inj e
        subst e
        obtain ⟨u, q1, q2⟩ := k2 i s0 q
        exact ⟨u, by simpa using q1, q2.up⟩
  · cases k with
    | zero =>
      simp at e
      subst e
      refine ⟨⟨p, rfl, us, h2, hz, h3, h5, h6, fun q z => ?_⟩, fun _ _ _ _ z => nomatch z⟩
      cases tg with
      | true => exact Option.some.inj z
      | false => cases z
    | succ k =>
      obtain ⟨⟨q, q1, q2⟩, q3⟩ := k4 k o (by simpa using e)
      exact ⟨⟨q, by simpa using q1, q2⟩, q3⟩⟩
abbrev RtM (ρ : Type) := Hp → Hp → Hp → List Addr → V → ρ → Prop
def obsOk (G F H : Hp) (os : List (Ob K)) : Prop := ∀ o ∈ os, ∃ p, obOk G F H o p
def rmV (e : Enc K β) (obs : List Addr → δ → List (Ob K)) : RtM (β × δ) := fun G F' H' ad v r => e.rep F' v r.1 ∧ obsOk G F' H' (obs ad r.2)
def rmN (e : Enc K α) (obs : List Addr → δ → List (Ob K)) : RtM (List α × δ) := fun G F' H' ad v r => (∃ p vs, v = .ref p ∧ G p = none ∧ p ∉ ad ∧ F' p = none ∧ H' p = some (.lst vs) ∧ vs.length ≤ sizeLine ∧ Reps e F' vs r.1) ∧ obsOk G F' H' (obs ad r.2)
/-- .. what is handed back may be what was handed in -/
def rmO (e : Enc K α) : RtM (List α) := fun G F' H' _ v r => ∃ p vs, v = .ref p ∧ G p = none ∧ F' p = none ∧ H' p = some (.lst vs) ∧ vs.length ≤ sizeLine ∧ Reps e F' vs r
def spM (mg : Str → Option Value) (A : ArM K γ) (mf : γ → Res ρ) (R : RtM ρ) : Sp := fun vs H Q E => ∃ F G ad g, Same F H ∧ Same G H ∧ ad.Nodup ∧ (∀ p ∈ ad, H p ≠ none) ∧ A.rep F G H ad vs g ∧
  mwp (mf g) (fun r => ∀ F' H' v, Same F F' → Same F' H' → Same G H' → (∀ a, F' a ≠ none → F a ≠ none ∨ G a = none) → R G F' H' ad v r → Q v H') (fun c => ∀ C H', mg c = some (.ref C) → Same G H' → E (.ref C) none H')
end
section
variable {P : Program} {w : World} {K : Frag} {mg : Str → Option Value} {base : Heap} {γ ρ : Type}
theorem fn_okM {x qual : Str} {params : Arguments} {body : List Stmt} {scope : Scope} {f : Addr} {fd : FuncData} {N ps : List Str} {k : Nat} (F : FunD K x qual params body scope [] [] f fd) (S : FnScope N ps scope) {A : ArM K γ} {mf : γ → Res ρ} {R : RtM ρ} (hlen : ∀ g, (A.sl g).length = ps.length)
    (hb : ∀ (cdv : Value) (Ao : Around) (outer : List Env) (s : Shared) (H : Hp) (E : XK) (Z : Fz) (Qr : ρ → Prop) (D : Ends) (g : γ) (ad : List Addr), (A.ob ad g).length = ad.length → Amb (cxOf (L2.CX P w) P w K mg base N qual scope f cdv Ao outer s H E) Z k → RT Z (fun G F' H' v r => R G F' H' ad v r) Qr D.rt → (∀ v H', D.rt v H' → v = .non → ∀ σ, D.nx σ H') →
      BJ (cxOf (L2.CX P w) P w K mg base N qual scope f cdv Ao outer s H E) Z Qr D ⟨A.sl g ++ List.replicate (N.length - ps.length) .any, A.ob ad g⟩ body (mf g)) : FnOk P w K mg base (L2.CX P w) (k + 1) f fd ps (spM mg A mf R) := by
  refine F.ok S (fun vs H Q E h => ?_) fun cdv Ao outer s H vs Q E hr h => ?_
  · obtain ⟨F0, G, ad, g, _, _, _, _, hA, _⟩ := h
    rw [(A.ok hA).1, hlen]
  · obtain ⟨F0, G, ad, g, hF, hG, hnd, hst, hA, hm⟩ := h
    obtain ⟨hl, hs, hol, ho⟩ := A.ok hA
    refine ⟨_, pb_w, hb cdv Ao outer s H E ⟨F0, G, fun c => ∀ C H', mg c = some (.ref C) → Same G H' → E (.ref C) none H'⟩ (fun r => ∀ F' H' v, Same F0 F' → Same F' H' → Same G H' → (∀ a, F' a ≠ none → F0 a ≠ none ∨ G a = none) → R G F' H' ad v r → Q v H') { nx := fun _ H' => Q .non H', rt := Q } g ad hol
      ⟨hr, rfl, S.nd, passes_of rfl, E, takes_of rfl rfl rfl rfl, fun c h C H' hC sm => h C H' hC sm⟩
      (fun r F' H' v f0 fh gh fg hr q => q F' H' v f0 fh gh fg hr) (fun v H' h e _ => by subst e; exact h) F0 ad _ H ?_ hm⟩
    refine ⟨Same.refl _, hF, hG, fun a h => .inl h, hnd, hst, ?_, fun i (s : Sl K) h => ?_, hol, fun k o h => (ho k o h).1, Lf.nil fun k α t e xss h => (ho k _ h).2 α t e xss rfl⟩
    · have e1 : (A.sl g ++ (List.replicate (N.length - ps.length) .any : List (Sl K))).length = ps.length + (N.length - ps.length) := by simp [hlen]
      have e2 : (L2.start N vs).length = vs.length + (N.length - vs.length) := by simp [L2.start]
      exact e1.trans (by rw [e2, hl, hlen])
    · have h : (A.sl g ++ (List.replicate (N.length - ps.length) .any : List (Sl K)))[i]? = some s := h
      have hv : vs.length = ps.length := by rw [hl, hlen]
      have e0 : L2.start N vs = vs.map some ++ List.replicate (N.length - vs.length) none := rfl
      by_cases hi : i < (A.sl g).length
      · rw [List.getElem?_append_left hi] at h
        obtain ⟨v, h1, h2⟩ := hs i s h
        refine ⟨some v, ?_, h2⟩
        rw [e0, List.getElem?_append_left (by rw [List.length_map]; omega), List.getElem?_map, h1]
        rfl
      · have hl2 := getElem?_some_of h
        rw [List.length_append, List.length_replicate] at hl2
        rw [List.getElem?_append_right (by omega)] at h
        have e : s = .any := by
          rw [List.getElem?_replicate] at h
          split at h
          · exact (Option.some.inj h).symm
          · cases h
        subst e
        refine ⟨none, ?_, trivial⟩
        rw [e0, List.getElem?_append_right (by rw [List.length_map]; omega), List.getElem?_replicate, if_pos (by rw [List.length_map]; omega)]
end
section
variable {X : Cx} {Z : Fz} {sp : Spec X.K} {a b c e : Expr} {es : List Expr} {pos p p2 fp : Pos} {α β γ δ ρ θ : Type} {k j : Nat} {x : Str} {F F' H H' : Hp} {ad : List Addr} {σ : Sg} {Qr : ρ → Prop} {D : Ends} {st : Stmt} {st' rest body : List Stmt} {m : Res ρ} {t : Option Addr} {tg it : Expr}
/-! ### handed back -/
theorem obs_in {os : List (Ob X.K)} {ks : List Nat} (S : SOk Z F ad sp σ H) (lo : LeO sp.ob ks os) : obsOk Z.G F H os := fun o ho => by
  obtain ⟨i, hi⟩ := List.mem_iff_getElem?.mp ho
  obtain ⟨k, _, h2⟩ := lo.get hi
  obtain ⟨p, _, h3⟩ := S.ob k o h2
  exact ⟨p, h3⟩
theorem bj_retM {en : Enc X.K β} {obs : List Addr → δ → List (Ob X.K)} {qs : List Addr} {Qr : β × δ → Prop} {m : Res β} {ks : List Nat} (d : δ) (hR : RT Z (fun G F' H' v r => rmV en obs G F' H' qs v r) Qr D.rt) (h : EJ X Z sp e m en) (lo : LeO sp.ob ks (obs qs d)) : BJ X Z Qr D sp (.Return (some e) pos :: rest) (m.bi fun r => .ok (r, d)) := fun F ad σ H S hm => by
  refine seq (ofS (ps_ret pe_w) ?_)
  refine h F ad σ H _ S (hm.bi.imp fun r q F' H' v n hr => ?_)
  have S' := S.nx n
  exact hR (r, d) F' H' v S'.f0 S'.fh S'.gh S'.fg ⟨hr, obs_in S' lo⟩ q
theorem bj_retM_p {en : Enc X.K β} {obs : List Addr → δ → List (Ob X.K)} {qs : List Addr} {Qr : β × δ → Prop} {r : β} {ks : List Nat} (d : δ) (hR : RT Z (fun G F' H' v r => rmV en obs G F' H' qs v r) Qr D.rt) (h : EJ X Z sp e (.ok r) en) (lo : LeO sp.ob ks (obs qs d)) : BJ X Z Qr D sp (.Return (some e) pos :: rest) (.ok (r, d)) := bj_retM d hR h lo
theorem bj_retMN {obs : List Addr → δ → List (Ob X.K)} {qs : List Addr} {Qr : Unit × δ → Prop} {ks : List Nat} (d : δ) (hR : RT Z (fun G F' H' v r => rmV (eU : Enc X.K Unit) obs G F' H' qs v r) Qr D.rt) (lo : LeO sp.ob ks (obs qs d)) : BJ X Z Qr D sp (.Return none pos :: rest) (.ok ((), d)) := fun F ad σ H S hm => by
  refine seq (ofS ps_retN ?_)
  exact hR ((), d) F H .non S.f0 S.fh S.gh S.fg ⟨rfl, obs_in S lo⟩ hm
theorem bj_endM {obs : List Addr → δ → List (Ob X.K)} {qs : List Addr} {Qr : Unit × δ → Prop} {ks : List Nat} (d : δ) (hR : RT Z (fun G F' H' v r => rmV (eU : Enc X.K Unit) obs G F' H' qs v r) Qr D.rt) (hN : ∀ v H', D.rt v H' → v = .non → ∀ σ, D.nx σ H') (lo : LeO sp.ob ks (obs qs d)) : BJ X Z Qr D sp [] (.ok ((), d)) := fun F ad σ H S hm =>
  ofB pss_nil (hN _ _ (hR ((), d) F H .non S.f0 S.fh S.gh S.fg ⟨rfl, obs_in S lo⟩ hm) rfl σ)
/-- one of ours, or a new one, none of those handed in -/
theorem bj_retMO {en : Enc X.K α} {obs : List Addr → δ → List (Ob X.K)} {qs : List Addr} {Qr : List α × δ → Prop} {i : Nat} {y : Str} {xs : List α} {ks : List Nat} (d : δ) (hR : RT Z (fun G F' H' v r => rmN en obs G F' H' qs v r) Qr D.rt) (lo : LeO sp.ob ks (obs qs d))
    (hc : ∀ q ∈ qs, ∃ k' : Nat, k' ≠ k ∧ ∃ (α : Type) (e : Enc X.K α) (xs : List α), sp.ob[k']? = some (Ob.lst (some q) e xs)) (hs : sp.sl[i]? = some (.own k) := by rfl) (ho : sp.ob[k]? = some (.lst t en xs) := by rfl) (hN : X.N[i]? = some y := by rfl)
    (hv : Vis X.env.scope y := by first | exact Or.inl rfl | exact Or.inr (Or.inl rfl) | exact Or.inr (Or.inr rfl)) (hd : (y == ("__debug__" : Str)) = false := by decide) (hcd : (y == ("__classdict__" : Str)) = false := by decide) :
    BJ X Z Qr D sp (.Return (some (.Name y p)) pos :: rest) (.ok (xs, d)) := fun F ad σ H S hm => by
  refine seq (ofS (ps_ret (pe_var (i := i) hN hv hd hcd)) ?_)
  obtain ⟨q, vs, h1, h2, h3, hz, h4, h5, h6, _⟩ := S.own hs ho
  refine ⟨.ref q, h1, hR (xs, d) F H (.ref q) S.f0 S.fh S.gh S.fg ⟨⟨q, vs, rfl, h6, fun hq => ?_, h5, h3, hz, h4⟩, obs_in S lo⟩ hm⟩
  obtain ⟨k', ne, α', e', xs', g1⟩ := hc q hq
  obtain ⟨q', g2, _, _, _, _, _, _, g3⟩ := S.ob k' _ g1
  have := g3 q rfl
  subst this
  have l1 := getElem?_some_of h2
  have l2 := getElem?_some_of g2
  rw [List.getElem?_eq_getElem l1] at h2
  rw [List.getElem?_eq_getElem l2] at g2
  exact ne ((List.getElem_inj S.nd).mp ((Option.some.inj g2).trans (Option.some.inj h2).symm))
theorem bj_retMF {en : Enc X.K α} {obs : List Addr → δ → List (Ob X.K)} {qs : List Addr} {Qr : List α × δ → Prop} {m : Res (List α)} {ks : List Nat} (d : δ) (hR : RT Z (fun G F' H' v r => rmN en obs G F' H' qs v r) Qr D.rt) (h : FJ X Z sp e m en) (lo : LeO sp.ob ks (obs qs d))
    (hc : ∀ q ∈ qs, ∃ k' : Nat, ∃ (α : Type) (e : Enc X.K α) (xs : List α), sp.ob[k']? = some (Ob.lst (some q) e xs)) : BJ X Z Qr D sp (.Return (some e) pos :: rest) (m.bi fun r => .ok (r, d)) := fun F ad σ H S hm => by
  refine seq (ofS (ps_ret pe_w) ?_)
  refine h F ad σ H _ S (hm.bi.imp fun r q F' H' p vs n h1 h2 h3 hz h4 => ?_)
  have S' := S.nx n
  refine hR (r, d) F' H' (.ref p) S'.f0 S'.fh S'.gh S'.fg ⟨⟨p, vs, rfl, S.gh.free h1, fun hq => ?_, h2, h3, hz, h4⟩, obs_in S' lo⟩ q
  obtain ⟨k', α', e', xs', g1⟩ := hc p hq
  obtain ⟨q', g2, _, g4, _, _, _, _, g3⟩ := S.ob k' _ g1
  have := g3 p rfl
  subst this
  rw [h1] at g4
  cases g4
/-- moved in: whatever list of ours -/
theorem bj_retOO {en : Enc X.K α} {qs : List Addr} {Qr : List α → Prop} {i : Nat} {y : Str} {xs : List α} (hR : RT Z (fun G F' H' v r => rmO en G F' H' qs v r) Qr D.rt) (hs : sp.sl[i]? = some (.own k) := by rfl) (ho : sp.ob[k]? = some (.lst t en xs) := by rfl) (hN : X.N[i]? = some y := by rfl)
    (hv : Vis X.env.scope y := by first | exact Or.inl rfl | exact Or.inr (Or.inl rfl) | exact Or.inr (Or.inr rfl)) (hd : (y == ("__debug__" : Str)) = false := by decide) (hcd : (y == ("__classdict__" : Str)) = false := by decide) :
    BJ X Z Qr D sp (.Return (some (.Name y p)) pos :: rest) (.ok xs) := fun F ad σ H S hm => by
  refine seq (ofS (ps_ret (pe_var (i := i) hN hv hd hcd)) ?_)
  obtain ⟨q, vs, h1, h2, h3, hz, h4, h5, h6, _⟩ := S.own hs ho
  exact ⟨.ref q, h1, hR xs F H (.ref q) S.f0 S.fh S.gh S.fg ⟨q, vs, rfl, h6, h5, h3, hz, h4⟩ hm⟩
theorem bj_retOF {en : Enc X.K α} {qs : List Addr} {Qr : List α → Prop} {m : Res (List α)} (hR : RT Z (fun G F' H' v r => rmO en G F' H' qs v r) Qr D.rt) (h : FJ X Z sp e m en) : BJ X Z Qr D sp (.Return (some e) pos :: rest) m := fun F ad σ H S hm => by
  refine seq (ofS (ps_ret pe_w) ?_)
  refine h F ad σ H _ S (hm.imp fun r q F' H' p vs n h1 h2 h3 hz h4 => ?_)
  have S' := S.nx n
  exact hR r F' H' (.ref p) S'.f0 S'.fh S'.gh S'.fg ⟨p, vs, rfl, S.gh.free h1, h2, h3, hz, h4⟩ q
end
end Wk

set_option Elab.async false
set_option linter.all false
set_option maxRecDepth 100000
set_option maxHeartbeats 4000000
namespace Wk
open PySem PySem.Spec PyProof.Rows L2
section
variable {X : Cx} {Z : Fz} {sp : Spec X.K} {a b c e : Expr} {es : List Expr} {pos p p2 fp : Pos} {α β γ δ ρ θ : Type} {k j : Nat} {x : Str} {F F' H H' : Hp} {ad : List Addr} {σ : Sg} {Qr : ρ → Prop} {D : Ends} {st : Stmt} {st' rest body : List Stmt} {m : Res ρ} {t : Option Addr} {tg it : Expr} {ks : List (Option Nat)}
/-! ### such a def, called -/
def PkR (ad : List Addr) (H : Hp) : Option Nat → Addr → Prop
  | some k, p => ad[k]? = some p
  | none, p => H p = none
def AMJ (X : Cx) (Z : Fz) (sp : Spec X.K) (es : List Expr) {γ : Type} (m : Res γ) (A : ArM X.K γ) (ks : List (Option Nat)) : Prop :=
  ∀ (F : Hp) (ad : List Addr) (σ : Sg) (H : Hp) (Q : List V → Hp → Prop), SOk Z F ad sp σ H → mwp m (fun g => ∀ F' H' vs ps, Nx F H F' H' → Paired (PkR ad H) ks ps → ps.Nodup → (∀ p ∈ ps, F' p = none ∧ H' p ≠ none ∧ Z.G p = none) →
    (∀ G, Same F' G → Same Z.G G → (∀ p ∈ ps, G p = none) → A.rep F' G H' ps vs g) → Q vs H') Z.Er → wA X es σ H Q
theorem pk_back {H1 : Hp} (hh : Same H H1) {ps : List Addr} (h : Paired (PkR ad H1) ks ps) : Paired (PkR ad H) ks ps := Paired.imp (fun o p z => by
  cases o with
  | some k => exact z
  | none => exact hh.free z) h
theorem pk_mem {o : Option Nat} : ∀ {ks : List (Option Nat)} {ps : List Addr}, Paired (PkR ad H) ks ps → ∀ p ∈ ps, (∃ k, some k ∈ ks ∧ ad[k]? = some p) ∨ H p = none
  | _, _, .nil, p, hp => by cases hp
  | o :: ks, q :: ps, .cons r t, p, hp => by
    rcases List.mem_cons.mp hp with e | hp
    · subst e
      cases o with
      | some k => exact .inl ⟨k, List.mem_cons_self .., r⟩
      | none => exact .inr r
    · rcases pk_mem (o := o) t p hp with ⟨k, h1, h2⟩ | h
      · exact .inl ⟨k, List.mem_cons_of_mem _ h1, h2⟩
      · exact .inr h
theorem amj_nil : AMJ X Z sp [] (.ok ()) am0 [] := fun F ad σ H Q S hq => ofA pa_nil (hq F H [] [] S.refl .nil List.nodup_nil (fun _ h => nomatch h) fun _ _ _ _ => ⟨rfl, rfl⟩)
theorem amj_val {en : Enc X.K α} {A : ArM X.K γ} {m : Res α} {mr : Res γ} (h : EJ X Z sp e m en) (hr : AMJ X Z sp es mr A ks) (hn : nst e = true := by rfl) : AMJ X Z sp (e :: es) (m.bi fun x => mr.bi fun g => .ok (x, g)) (amV en A) ks := fun F ad σ H Q S hq => by
  refine ofA (pa_cons pe_w pa_w (star_cons hn)) ?_
  refine h F ad σ H _ S (hq.bi.imp fun x q F1 H1 v n1 r1 => ?_)
  refine hr F1 ad σ H1 _ (S.nx n1) (q.bi.imp fun g q F2 H2 vs ps n2 pk nd hp hrep => ?_)
  exact q F2 H2 _ ps (n1.trans n2) (pk_back n1.hh pk) nd hp fun G s1 s2 s3 => ⟨v, vs, rfl, en.mono n2.ff r1, hrep G s1 s2 s3⟩
theorem amj_lst {en : Enc X.K α} {A : ArM X.K γ} {m : Res (List α)} {mr : Res γ} (h : KJ X Z sp e m en) (hr : AMJ X Z sp es mr A ks) (hn : nst e = true := by rfl) : AMJ X Z sp (e :: es) (m.bi fun x => mr.bi fun g => .ok (x, g)) (amL en A) ks := fun F ad σ H Q S hq => by
  refine ofA (pa_cons pe_w pa_w (star_cons hn)) ?_
  refine h F ad σ H _ S (hq.bi.imp fun x q F1 H1 p us n1 h1 hz r1 => ?_)
  refine hr F1 ad σ H1 _ (S.nx n1) (q.bi.imp fun g q F2 H2 vs ps n2 pk nd hp hrep => ?_)
  refine q F2 H2 _ ps (n1.trans n2) (pk_back n1.hh pk) nd hp fun G s1 s2 s3 => ⟨p, us, vs, rfl, ?_, hz, r1.mono n2.ff, hrep G s1 s2 s3⟩
  rcases h1 with h1 | h1
  · exact SqL.of (s1 _ _ (n2.ff _ _ h1))
  · exact sqL_mono s2 h1
theorem amj_own {en : Enc X.K α} {A : ArM X.K γ} {xs : List α} {mr : Res γ} {i : Nat} {tb : Bool} (hr : AMJ X Z sp es mr A ks) (hk : some k ∉ ks) (hs : sp.sl[i]? = some (.own k) := by rfl) (ho : sp.ob[k]? = some (.lst t en xs) := by rfl) (hN : X.N[i]? = some x := by rfl)
    (hv : Vis X.env.scope x := by first | exact Or.inl rfl | exact Or.inr (Or.inl rfl) | exact Or.inr (Or.inr rfl)) (hd : (x == ("__debug__" : Str)) = false := by decide) (hcd : (x == ("__classdict__" : Str)) = false := by decide) :
    AMJ X Z sp (.Name x pos :: es) (mr.bi fun g => .ok (xs, g)) (amM tb en A) (some k :: ks) := fun F ad σ H Q S hq => by
  refine ofA (pa_cons (pe_var (i := i) hN hv hd hcd) pa_w (star_cons rfl)) ?_
  obtain ⟨q0, vs, h1, h2, h3, hz, h4, h5, h6, _⟩ := S.own hs ho
  refine ⟨.ref q0, h1, ?_⟩
  have hne : H q0 ≠ none := by rw [h3]; exact fun z => nomatch z
  refine hr F ad σ H _ S (hq.bi.imp fun g q F2 H2 ws ps n2 pk nd hp hrep => ?_)
  have hnot : q0 ∉ ps := fun z => by
    rcases pk_mem (o := none) pk q0 z with ⟨k', g1, g2⟩ | g
    · have l1 := getElem?_some_of h2
      have l2 := getElem?_some_of g2
      rw [List.getElem?_eq_getElem l1] at h2
      rw [List.getElem?_eq_getElem l2] at g2
      have e2 : k' = k := (List.getElem_inj S.nd).mp ((Option.some.inj g2).trans (Option.some.inj h2).symm)
      exact hk (e2 ▸ g1)
    · exact hne g
  have hf := n2.non h5 hne
  refine q F2 H2 _ (q0 :: ps) n2 (.cons h2 pk) (List.nodup_cons.mpr ⟨hnot, nd⟩) (fun p hp' => ?_) fun G s1 s2 s3 => ⟨q0, vs, ws, ps, rfl, rfl, n2.hh _ _ h3, hz, h4.mono n2.ff, hf, s3 q0 (List.mem_cons_self ..), hrep G s1 s2 fun p hp' => s3 p (List.mem_cons_of_mem _ hp')⟩
  rcases List.mem_cons.mp hp' with e | hp'
  · subst e
    exact ⟨hf, fun z => hne (n2.hh.free z), h6⟩
  · exact hp p hp'
theorem amj_new {en : Enc X.K α} {A : ArM X.K γ} {m : Res (List α)} {mr : Res γ} {tb : Bool} (h : FJ X Z sp e m en) (hr : AMJ X Z sp es mr A ks) (hn : nst e = true := by rfl) : AMJ X Z sp (e :: es) (m.bi fun x => mr.bi fun g => .ok (x, g)) (amM tb en A) (none :: ks) := fun F ad σ H Q S hq => by
  refine ofA (pa_cons pe_w pa_w (star_cons hn)) ?_
  refine h F ad σ H _ S (hq.bi.imp fun x q F1 H1 q0 us n1 h1 h2 h3 hz r1 => ?_)
  have hne : H1 q0 ≠ none := by rw [h3]; exact fun z => nomatch z
  refine hr F1 ad σ H1 _ (S.nx n1) (q.bi.imp fun g q F2 H2 ws ps n2 pk nd hp hrep => ?_)
  have hnot : q0 ∉ ps := fun z => by
    rcases pk_mem (o := none) pk q0 z with ⟨k', g1, g2⟩ | g
    · exact S.st q0 (List.mem_of_getElem? g2) h1
    · exact hne g
  have hf := n2.non h2 hne
  refine q F2 H2 _ (q0 :: ps) (n1.trans n2) (.cons h1 (pk_back n1.hh pk)) (List.nodup_cons.mpr ⟨hnot, nd⟩) (fun p hp' => ?_) fun G s1 s2 s3 => ⟨q0, us, ws, ps, rfl, rfl, n2.hh _ _ h3, hz, r1.mono n2.ff, hf, s3 q0 (List.mem_cons_self ..), hrep G s1 s2 fun p hp' => s3 p (List.mem_cons_of_mem _ hp')⟩
  rcases List.mem_cons.mp hp' with e | hp'
  · subst e
    exact ⟨hf, fun z => hne (n2.hh.free z), S.gh.free h1⟩
  · exact hp p hp'
theorem amj_val_p {en : Enc X.K α} {A : ArM X.K γ} {v : α} {g : γ} (h : EJ X Z sp e (.ok v) en) (hr : AMJ X Z sp es (.ok g) A ks) (hn : nst e = true := by rfl) : AMJ X Z sp (e :: es) (.ok (v, g)) (amV en A) ks := amj_val h hr hn
theorem amj_lst_p {en : Enc X.K α} {A : ArM X.K γ} {v : List α} {g : γ} (h : KJ X Z sp e (.ok v) en) (hr : AMJ X Z sp es (.ok g) A ks) (hn : nst e = true := by rfl) : AMJ X Z sp (e :: es) (.ok (v, g)) (amL en A) ks := amj_lst h hr hn
theorem amj_own_p {en : Enc X.K α} {A : ArM X.K γ} {xs : List α} {g : γ} {i : Nat} {tb : Bool} (hr : AMJ X Z sp es (.ok g) A ks) (hk : some k ∉ ks) (hs : sp.sl[i]? = some (.own k) := by rfl) (ho : sp.ob[k]? = some (.lst t en xs) := by rfl) (hN : X.N[i]? = some x := by rfl)
    (hv : Vis X.env.scope x := by first | exact Or.inl rfl | exact Or.inr (Or.inl rfl) | exact Or.inr (Or.inr rfl)) (hd : (x == ("__debug__" : Str)) = false := by decide) (hcd : (x == ("__classdict__" : Str)) = false := by decide) :
    AMJ X Z sp (.Name x pos :: es) (.ok (xs, g)) (amM tb en A) (some k :: ks) := amj_own hr hk hs ho hN hv hd hcd
theorem amj_new_p {en : Enc X.K α} {A : ArM X.K γ} {v : List α} {g : γ} {tb : Bool} (h : FJ X Z sp e (.ok v) en) (hr : AMJ X Z sp es (.ok g) A ks) (hn : nst e = true := by rfl) : AMJ X Z sp (e :: es) (.ok (v, g)) (amM tb en A) (none :: ks) := amj_new h hr hn
/-- all but some -/
def restH (H : Hp) (ps : List Addr) : Hp := fun a => if a ∈ ps then none else H a
theorem restH_in {ps : List Addr} {a : Addr} (h : a ∈ ps) : restH H ps a = none := if_pos h
theorem restH_out {ps : List Addr} {a : Addr} (h : a ∉ ps) : restH H ps a = H a := if_neg h
/-- what holds behind the call -/
theorem SOk.afterL {F1 H1 : Hp} {ps : List Addr} {ob' : List (Ob X.K)} (S0 : SOk Z F ad sp σ H) (n : Nx F H F1 H1) (pk : Paired (PkR ad H) ks ps) (hp : ∀ p ∈ ps, F1 p = none ∧ H1 p ≠ none ∧ Z.G p = none) (ff : Same F1 F') (fh : Same F' H') (gh : Same (restH H1 ps) H') (fg : ∀ a, F' a ≠ none → F1 a ≠ none ∨ restH H1 ps a = none)
    (hl : ob'.length = sp.ob.length) (hst : ∀ p ∈ ps, p ∈ ad → H' p ≠ none) (hob : ∀ (k : Nat) (o : Ob X.K), ob'[k]? = some o → (sp.ob[k]? = some o ∧ some k ∉ ks) ∨ ((∃ p, ad[k]? = some p ∧ obOk Z.G F' H' o p) ∧ ∀ (α : Type) (t : Option Addr) (e : PkE X.K α) (xss : α), o ≠ .pk t e xss)) : ∃ L, LfW Z.G F' H' ad ob' L ∧ ∀ k q, q ∈ L k → H q ≠ none := by
  have S := S0.nx n
  have zg : Same Z.G (restH H1 ps) := fun a o h => by
    have : a ∉ ps := fun z => by rw [(hp a z).2.2] at h; cases h
    rw [restH_out this]
    exact S.gh _ _ h
  have keep : ∀ a, a ∉ ps → ∀ o, H1 a = some o → H' a = some o := fun a ha o h => gh a o (by rw [restH_out ha]; exact h)
  have non : ∀ a, a ∉ ps → F1 a = none → H1 a ≠ none → F' a = none := fun a ha h1 h2 => by
    cases q : F' a with
    | none => rfl
    | some o =>
      rcases fg a (by rw [q]; exact fun z => nomatch z) with z | z
      · exact absurd h1 z
      · rw [restH_out ha] at z
        exact absurd z h2
  have notin : ∀ k p, ad[k]? = some p → some k ∉ ks → p ∉ ps := fun k p hkp hk z => by
    rcases pk_mem (o := none) pk p z with ⟨k', g1, g2⟩ | g
    · have l1 := getElem?_some_of hkp
      have l2 := getElem?_some_of g2
      rw [List.getElem?_eq_getElem l1] at hkp
      rw [List.getElem?_eq_getElem l2] at g2
      have e2 : k' = k := (List.getElem_inj S.nd).mp ((Option.some.inj g2).trans (Option.some.inj hkp).symm)
      exact hk (e2 ▸ g1)
    · exact S0.st p (List.mem_of_getElem? hkp) g
  obtain ⟨L, h⟩ := S0.lf
  have h' := h.nx n
  have nl : ∀ k q, q ∈ L k → q ∉ ps := fun k q hq z => by
    rcases pk_mem (o := none) pk q z with ⟨k', _, g2⟩ | g
    · exact (h.di k q hq).1 (List.mem_of_getElem? g2)
    · exact (h.di k q hq).2.2.2 g
  refine ⟨L, ⟨fun k q hq => ?_, h.un, h.nd, fun k α t e xss hk => ?_⟩, fun k q hq => (h.di k q hq).2.2.2⟩
  · obtain ⟨a, b, c, d⟩ := h'.di k q hq
    refine ⟨a, non q (nl k q hq) b d, c, fun z => ?_⟩
    cases e : H1 q with
    | none => exact d e
    | some o => rw [keep q (nl k q hq) o e] at z; cases z
  · rcases hob k _ hk with ⟨h1, h2⟩ | ⟨_, h2⟩
    · obtain ⟨p, g1, g2⟩ := h'.ok k α t e xss h1
      have hn := notin k p g1 h2
      exact ⟨p, g1, g2.go ff (fun q hq => keep q (nl k q hq)) (keep p hn) (non p hn g2.2.1 (e.st g2.1))⟩
    · exact absurd rfl (h2 α t e xss)
theorem SOk.after {F1 H1 : Hp} {ps : List Addr} {ob' : List (Ob X.K)} (S0 : SOk Z F ad sp σ H) (n : Nx F H F1 H1) (pk : Paired (PkR ad H) ks ps) (hp : ∀ p ∈ ps, F1 p = none ∧ H1 p ≠ none ∧ Z.G p = none) (ff : Same F1 F') (fh : Same F' H') (gh : Same (restH H1 ps) H') (fg : ∀ a, F' a ≠ none → F1 a ≠ none ∨ restH H1 ps a = none)
    (hl : ob'.length = sp.ob.length) (hst : ∀ p ∈ ps, p ∈ ad → H' p ≠ none) (hob : ∀ (k : Nat) (o : Ob X.K), ob'[k]? = some o → (sp.ob[k]? = some o ∧ some k ∉ ks) ∨ ((∃ p, ad[k]? = some p ∧ obOk Z.G F' H' o p) ∧ ∀ (α : Type) (t : Option Addr) (e : PkE X.K α) (xss : α), o ≠ .pk t e xss)) : SOk Z F' ad ⟨sp.sl, ob'⟩ σ H' := by
  have S := S0.nx n
  have zg : Same Z.G (restH H1 ps) := fun a o h => by
    have : a ∉ ps := fun z => by rw [(hp a z).2.2] at h; cases h
    rw [restH_out this]
    exact S.gh _ _ h
  have keep : ∀ a, a ∉ ps → ∀ o, H1 a = some o → H' a = some o := fun a ha o h => gh a o (by rw [restH_out ha]; exact h)
  have non : ∀ a, a ∉ ps → F1 a = none → H1 a ≠ none → F' a = none := fun a ha h1 h2 => by
    cases q : F' a with
    | none => rfl
    | some o =>
      rcases fg a (by rw [q]; exact fun z => nomatch z) with z | z
      · exact absurd h1 z
      · rw [restH_out ha] at z
        exact absurd z h2
  have notin : ∀ k p, ad[k]? = some p → some k ∉ ks → p ∉ ps := fun k p hkp hk z => by
    rcases pk_mem (o := none) pk p z with ⟨k', g1, g2⟩ | g
    · have l1 := getElem?_some_of hkp
      have l2 := getElem?_some_of g2
      rw [List.getElem?_eq_getElem l1] at hkp
      rw [List.getElem?_eq_getElem l2] at g2
      have e2 : k' = k := (List.getElem_inj S.nd).mp ((Option.some.inj g2).trans (Option.some.inj hkp).symm)
      exact hk (e2 ▸ g1)
    · exact S0.st p (List.mem_of_getElem? hkp) g
  have hLf := SOk.afterL S0 n pk hp ff fh gh fg hl hst hob
  refine ⟨S.f0.trans ff, fh, zg.trans gh, fun a h => ?_, S.nd, fun p hpa => ?_, S.len, fun i s h => ?_, hl.trans S.olen, fun k o h => ?_, ?_⟩
  · rcases fg a h with z | z
    · exact S.fg a z
    · exact .inr (zg.free z)
  · by_cases z : p ∈ ps
    · exact hst p z hpa
    · intro q
      have := S.st p hpa
      cases e : H1 p with
      | none => exact this e
      | some o => rw [keep p z o e] at q; cases q
  · obtain ⟨o, h1, h2⟩ := S.sl i s h
    exact ⟨o, h1, h2.mono ff⟩
  · rcases hob k o h with ⟨h1, h2⟩ | ⟨h1, _⟩
    · obtain ⟨p, g1, g2⟩ := S.ob k o h1
      refine ⟨p, g1, ?_⟩
      have hn := notin k p g1 h2
      cases o with
      | dead => trivial
      | pk t e xss => trivial
      | gen t e s =>
        obtain ⟨u, k1, k2, k3, k4⟩ := g2
        exact ⟨u, keep p hn _ k1, e.mono ff k2, non p hn k3 (by rw [k1]; exact fun z => nomatch z), k4⟩
      | lst t e xs =>
        obtain ⟨vs, k1, kz, k2, k3, k4⟩ := g2
        exact ⟨vs, keep p hn _ k1, kz, k2.mono ff, non p hn k3 (by rw [k1]; exact fun z => nomatch z), k4⟩
    · exact h1
  · exact let ⟨L, h, _⟩ := hLf
    ⟨L, h⟩
/-- the objects behind the call -/
structure MSt (ob : List (Ob X.K)) (ks : List (Option Nat)) (obs : List Addr → δ → List (Ob X.K)) (nob : δ → List (Ob X.K)) : Prop where
  len : ∀ d, (nob d).length = ob.length
  go : ∀ {Z : Fz} {ad ps : List Addr} {F H G F' H' : Hp} {d : δ}, Paired (PkR ad H) ks ps → (∀ (k : Nat) (o : Ob X.K), ob[k]? = some o → ∃ p, ad[k]? = some p ∧ obOk Z.G F H o p) → (∀ p ∈ ps, Z.G p = none) → (∀ p ∈ ad, H p ≠ none) → obsOk G F' H' (obs ps d) →
    (∀ (k : Nat) (o : Ob X.K), (nob d)[k]? = some o → (ob[k]? = some o ∧ some k ∉ ks) ∨ ((∃ p, ad[k]? = some p ∧ obOk Z.G F' H' o p) ∧ ∀ (α : Type) (t : Option Addr) (e : PkE X.K α) (xss : α), o ≠ .pk t e xss)) ∧ ∀ p ∈ ps, p ∈ ad → H' p ≠ none
def obs1 {K : Frag} (e : Enc K α) : List Addr → List α → List (Ob K) := fun qs d => [.lst qs.head? e d]
def obs2 {K : Frag} (e : Enc K α) (e' : Enc K β) : List Addr → List α × List β → List (Ob K) := fun qs d => [.lst qs.head? e d.1, .lst qs.tail.head? e' d.2]
theorem mst1 {ob : List (Ob X.K)} {en : Enc X.K α} {xs : List α} (h : ob[k]? = some (.lst t en xs)) : MSt ob [some k] (obs1 en) (fun d => ob.set k (.lst t en d)) := by
  refine ⟨fun d => List.length_set .., fun {Z ad ps F H G F' H' d} pk hob hg hst ho => ?_⟩
  have hps : ∃ p, ps = [p] ∧ ad[k]? = some p := by
    cases pk with
    | cons r rr =>
      cases rr
      exact ⟨_, rfl, r⟩
  obtain ⟨p, rfl, r⟩ := hps
  obtain ⟨p', vs, g1, gz, g2, g3, _, g5⟩ := ho _ (List.mem_cons_self ..)
  have e := g5 p rfl
  subst e
  obtain ⟨p2, k1, _, _, _, _, _, _, k2⟩ := hob k _ h
  rw [r] at k1
  have e := Option.some.inj k1
  subst e
  refine ⟨fun i o hi => ?_, fun q hq _ => ?_⟩
  · by_cases e : i = k
    · subst e
      rw [List.getElem?_set_self (getElem?_some_of h)] at hi
      cases hi
      exact .inr ⟨⟨p', r, vs, g1, gz, g2, g3, hg p' (List.mem_cons_self ..), k2⟩, fun _ _ _ _ z => nomatch z⟩
    · rw [List.getElem?_set_ne (Ne.symm e)] at hi
      exact .inl ⟨hi, fun z => e (by simpa using z)⟩
  · rw [List.mem_singleton] at hq
    rw [hq, g1]
    exact fun z => nomatch z
theorem mst2 {ob : List (Ob X.K)} {en : Enc X.K α} {en' : Enc X.K β} {xs : List α} {ys : List β} {k' : Nat} {t' : Option Addr} (h : ob[k]? = some (.lst t en xs)) (h' : ob[k']? = some (.lst t' en' ys)) (ne : k ≠ k' := by decide) : MSt ob [some k, some k'] (obs2 en en') (fun d => (ob.set k (.lst t en d.1)).set k' (.lst t' en' d.2)) := by
  refine ⟨fun d => by rw [List.length_set, List.length_set], fun {Z ad ps F H G F' H' d} pk hob hg hst ho => ?_⟩
  have hps : ∃ p p', ps = [p, p'] ∧ ad[k]? = some p ∧ ad[k']? = some p' := by
    cases pk with
    | cons r rr =>
      cases rr with
      | cons r' rr' =>
        cases rr'
        exact ⟨_, _, rfl, r, r'⟩
  obtain ⟨p, p', rfl, r, r'⟩ := hps
  obtain ⟨q, vs, g1, gz, g2, g3, _, g5⟩ := ho _ (List.mem_cons_self ..)
  obtain ⟨q', ws, f1, fz, f2, f3, _, f5⟩ := ho _ (List.mem_cons_of_mem _ (List.mem_cons_self ..))
  have e := g5 p rfl
  subst e
  have e := f5 p' rfl
  subst e
  obtain ⟨p2, k1, _, _, _, _, _, _, k2⟩ := hob k _ h
  rw [r] at k1
  have e := Option.some.inj k1
  subst e
  obtain ⟨p3, l1, _, _, _, _, _, _, l2⟩ := hob k' _ h'
  rw [r'] at l1
  have e := Option.some.inj l1
  subst e
  refine ⟨fun i o hi => ?_, fun x hx _ => ?_⟩
  · by_cases e' : i = k'
    · subst e'
      rw [List.getElem?_set_self (by rw [List.length_set]; exact getElem?_some_of h')] at hi
      cases hi
      exact .inr ⟨⟨q', r', ws, f1, fz, f2, f3, hg q' (List.mem_cons_of_mem _ (List.mem_cons_self ..)), l2⟩, fun _ _ _ _ z => nomatch z⟩
    · rw [List.getElem?_set_ne (Ne.symm e')] at hi
      by_cases e : i = k
      · subst e
        rw [List.getElem?_set_self (getElem?_some_of h)] at hi
        cases hi
        exact .inr ⟨⟨q, r, vs, g1, gz, g2, g3, hg q (List.mem_cons_self ..), k2⟩, fun _ _ _ _ z => nomatch z⟩
      · rw [List.getElem?_set_ne (Ne.symm e)] at hi
        exact .inl ⟨hi, fun z => by simp at z; rcases z with z | z; exact e z; exact e' z⟩
  · rcases List.mem_cons.mp hx with z | z
    · rw [z, g1]
      exact fun z => nomatch z
    · rw [List.mem_singleton] at z
      rw [z, f1]
      exact fun z => nomatch z
theorem callM_core {A : ArM X.K γ} {mf : γ → Res θ} {R : RtM θ} {ma : Res γ} (am : Amb X Z k) (C : Cal X.prog X.w X.K X.mg X.base x j (spM X.mg A mf R)) (hj : j ≤ k) (ha : AMJ X Z sp (e :: es) ma A ks) (hn : nst e = true) (hg : Gl X x)
    (hpl : (backTo pos (starEach es X.env)).any (·.1) = false) (hdb : (x == ("__debug__" : Str)) = false) (F : Hp) (ad : List Addr) (σ : Sg) (H : Hp) (Q : VK) (S : SOk Z F ad sp σ H)
    (hm : mwp (ma.bi mf) (fun r => ∀ F1 H1 F' H' v ps, Nx F H F1 H1 → Paired (PkR ad H) ks ps → (∀ p ∈ ps, F1 p = none ∧ H1 p ≠ none ∧ Z.G p = none) → Same F1 F' → Same F' H' → Same (restH H1 ps) H' → (∀ a, F' a ≠ none → F1 a ≠ none ∨ restH H1 ps a = none) → R (restH H1 ps) F' H' ps v r → Q v H') Z.Er) : wE X (.Call (.Name x fp) (e :: es) [] pos) σ H Q := by
  obtain ⟨f, fd, qs, G, hmg, hk, hb⟩ := C.ex
  obtain ⟨E, pE, hE⟩ := am.ps
  refine ofE (pe_call (E := E) G (am.hr.mono hj) hg hmg hk hb .nil (passes_call pE fun _ _ _ _ h => h) pa_w hdb (star_cons hn) hpl) ?_
  refine ha F ad σ H _ S (hm.bi.imp fun g q F1 H1 vs ps n1 pk nd hp hrep => ?_)
  show spM X.mg A mf R (vs ++ []) H1 Q E
  rw [List.append_nil]
  have zg : Same Z.G (restH H1 ps) := fun a o h => by
    have : a ∉ ps := fun z => by rw [(hp a z).2.2] at h; cases h
    rw [restH_out this]
    exact (S.gh.trans n1.hh) _ _ h
  have rh : Same (restH H1 ps) H1 := fun a o h => by
    by_cases z : a ∈ ps
    · rw [restH_in z] at h
      cases h
    · rw [restH_out z] at h
      exact h
  have fr : Same F1 (restH H1 ps) := fun a o h => by
    have : a ∉ ps := fun z => by rw [(hp a z).1] at h; cases h
    rw [restH_out this]
    exact n1.fh _ _ h
  exact ⟨F1, restH H1 ps, ps, g, n1.fh, rh, nd, fun p h => (hp p h).2.1, hrep _ fr zg fun p h => restH_in h, q.imp2 (fun r q F' H' v a b c d hr => q F1 H1 F' H' v ps n1 pk hp a b c d hr) fun c hc C H' hC s => hE c hc C H' hC (zg.trans s)⟩
variable {obs : List Addr → δ → List (Ob X.K)} {nob : δ → List (Ob X.K)}
/-- f(..) -/
theorem bj_exM {A : ArM X.K γ} {mf : γ → Res (β × δ)} {ma : Res γ} {kk : β × δ → Res ρ} {en : Enc X.K β} {pos' : Pos} (am : Amb X Z k) (C : Cal X.prog X.w X.K X.mg X.base x j (spM X.mg A mf (rmV en obs))) (hj : j ≤ k) (ha : AMJ X Z sp (e :: es) ma A ks) (mst : MSt sp.ob ks obs nob) (hr : ∀ r, BJ X Z Qr D ⟨sp.sl, nob r.2⟩ rest (kk r)) (hn : nst e = true := by rfl) (hg : Gl X x := by rfl)
    (hpl : (backTo pos (starEach es X.env)).any (·.1) = false := by rfl) (hdb : (x == ("__debug__" : Str)) = false := by decide) (hw : swapsWith (.Call (.Name x fp) (e :: es) [] pos) none pos'.line X.env = pure false := by rfl) : BJ X Z Qr D sp (.Expr (.Call (.Name x fp) (e :: es) [] pos) pos' :: rest) ((ma.bi mf).bi kk) := fun F ad σ H S hm => by
  refine seq (ofS (ps_expr pe_w hw) ?_)
  refine callM_core am C hj ha hn hg hpl hdb F ad σ H _ S (hm.bi.imp fun r q F1 H1 F' H' v ps n1 pk hp f1 f2 f3 f4 hR => ?_)
  obtain ⟨g1, g2⟩ := mst.go (d := r.2) pk S.ob (fun p h => (hp p h).2.2) S.st hR.2
  exact hr r F' ad σ H' (SOk.after S n1 pk hp f1 f2 f3 f4 (mst.len r.2) g2 g1) q
/-- y = f(..), a value -/
theorem bj_asM {A : ArM X.K γ} {mf : γ → Res (β × δ)} {ma : Res γ} {kk : β × δ → Res ρ} {en : Enc X.K β} {i : Nat} {y : Str} {py spos : Pos} (am : Amb X Z k) (C : Cal X.prog X.w X.K X.mg X.base x j (spM X.mg A mf (rmV en obs))) (hj : j ≤ k) (ha : AMJ X Z sp (e :: es) ma A ks) (mst : MSt sp.ob ks obs nob) (hr : ∀ r, BJ X Z Qr D ⟨sp.sl.set i (.val en r.1), nob r.2⟩ rest (kk r)) (hn : nst e = true := by rfl) (hg : Gl X x := by rfl)
    (hpl : (backTo pos (starEach es X.env)).any (·.1) = false := by rfl) (hdb : (x == ("__debug__" : Str)) = false := by decide) (hi : X.N[i]? = some y := by rfl) (hx : Loc X.env.scope y := by first | exact Or.inl rfl | exact Or.inr rfl)
    (hs : swapsWith (.Call (.Name x fp) (e :: es) [] pos) (some (.Name y py)) spos.line X.env = pure false := by rfl) (hf : X.fn y = true ∨ X.env.scope.names.lookup y = some .local := by first | exact .inl rfl | exact .inr rfl) : BJ X Z Qr D sp (.Assign [.Name y py] (.Call (.Name x fp) (e :: es) [] pos) spos :: rest) ((ma.bi mf).bi kk) := fun F ad σ H S hm => by
  refine seq (ofS (ps_set am.nd hi hx pe_w hs hf) ?_)
  refine callM_core am C hj ha hn hg hpl hdb F ad σ H _ S (hm.bi.imp fun r q F1 H1 F' H' v ps n1 pk hp f1 f2 f3 f4 hR => ?_)
  obtain ⟨g1, g2⟩ := mst.go (d := r.2) pk S.ob (fun p h => (hp p h).2.2) S.st hR.2
  exact hr r F' ad _ H' ((SOk.after S n1 pk hp f1 f2 f3 f4 (mst.len r.2) g2 g1).set ⟨v, rfl, hR.1⟩) q
/-- y = f(..), a new list -/
theorem SOk.push2 {K : Frag} {sp : Spec K} {en : Enc K α} {xs : List α} {q : Addr} {vs : List V} (S : SOk Z F ad sp σ H) (hq : q ∉ ad) (hF : F q = none) (hG : Z.G q = none) (hH : H q = some (.lst vs)) (hz : vs.length ≤ sizeLine) (r : Reps en F vs xs) (hL : ∃ L, LfW Z.G F H ad sp.ob L ∧ ∀ k, q ∉ L k) : SOk Z F (ad ++ [q]) ⟨sp.sl, sp.ob ++ [.lst none en xs]⟩ σ H := by
  refine ⟨S.f0, S.fh, S.gh, S.fg, ?_, fun a ha => ?_, S.len, fun i s h => ?_, ?_, fun k o h => ?_, ?_⟩
  · rw [List.nodup_append]
    exact ⟨S.nd, by simp, fun a ha b hb e => hq (by simp at hb; rw [← hb, ← e]; exact ha)⟩
  · rcases List.mem_append.mp ha with ha | ha
    · exact S.st a ha
    · simp at ha
      rw [ha, hH]
      exact fun z => nomatch z
  · obtain ⟨o, h1, h2⟩ := S.sl i s h
    exact ⟨o, h1, h2.push q⟩
  · simp [S.olen]
  · by_cases hk : k < sp.ob.length
    · have h : (sp.ob ++ [.lst none en xs])[k]? = some o := h
      rw [List.getElem?_append_left hk] at h
      obtain ⟨p, h1, h2⟩ := S.ob k o h
      exact ⟨p, by rw [List.getElem?_append_left (getElem?_some_of h1)]; exact h1, h2⟩
    · have h : (sp.ob ++ [.lst none en xs])[k]? = some o := h
      have hl := getElem?_some_of h
      have e : k = sp.ob.length := by simp at hl; omega
      subst e
      simp at h
      subst h
      exact ⟨q, by rw [S.olen]; simp, vs, hH, hz, r, hF, hG, fun q z => nomatch z⟩
  · obtain ⟨L, h, hq'⟩ := hL
    refine ⟨L, fun k x hx => ?_, h.un, h.nd, fun k α t e xss hk => ?_⟩
    · obtain ⟨a, b⟩ := h.di k x hx
      refine ⟨fun z => ?_, b⟩
      rcases List.mem_append.mp z with z | z
      · exact a z
      · rw [List.mem_singleton] at z
        subst z
        exact hq' k hx
    · have hk : (sp.ob ++ [.lst none en xs])[k]? = some (.pk t e xss) := hk
      by_cases hlt : k < sp.ob.length
      · rw [List.getElem?_append_left hlt] at hk
        obtain ⟨p, hp, r⟩ := h.ok k α t e xss hk
        exact ⟨p, by rw [List.getElem?_append_left (getElem?_some_of hp)]; exact hp, r⟩
      · have hl2 := getElem?_some_of hk
        rw [List.length_append, List.length_singleton] at hl2
        have e2 : k = sp.ob.length := by omega
        subst e2
        rw [List.getElem?_append_right (Nat.le_refl _), Nat.sub_self] at hk
        cases hk
theorem bj_asMN {A : ArM X.K γ} {mf : γ → Res (List α × δ)} {ma : Res γ} {kk : List α × δ → Res ρ} {en : Enc X.K α} {i : Nat} {y : Str} {py spos : Pos} (am : Amb X Z k) (C : Cal X.prog X.w X.K X.mg X.base x j (spM X.mg A mf (rmN en obs))) (hj : j ≤ k) (ha : AMJ X Z sp (e :: es) ma A ks) (mst : MSt sp.ob ks obs nob) (hr : ∀ r, BJ X Z Qr D ⟨sp.sl.set i (.own (nob r.2).length), nob r.2 ++ [.lst none en r.1]⟩ rest (kk r)) (hn : nst e = true := by rfl) (hg : Gl X x := by rfl)
    (hpl : (backTo pos (starEach es X.env)).any (·.1) = false := by rfl) (hdb : (x == ("__debug__" : Str)) = false := by decide) (hi : X.N[i]? = some y := by rfl) (hx : Loc X.env.scope y := by first | exact Or.inl rfl | exact Or.inr rfl)
    (hs : swapsWith (.Call (.Name x fp) (e :: es) [] pos) (some (.Name y py)) spos.line X.env = pure false := by rfl) (hf : X.fn y = true ∨ X.env.scope.names.lookup y = some .local := by first | exact .inl rfl | exact .inr rfl) : BJ X Z Qr D sp (.Assign [.Name y py] (.Call (.Name x fp) (e :: es) [] pos) spos :: rest) ((ma.bi mf).bi kk) := fun F ad σ H S hm => by
  refine seq (ofS (ps_set am.nd hi hx pe_w hs hf) ?_)
  refine callM_core am C hj ha hn hg hpl hdb F ad σ H _ S (hm.bi.imp fun r q F1 H1 F' H' v ps n1 pk hp f1 f2 f3 f4 hR => ?_)
  obtain ⟨g1, g2⟩ := mst.go (d := r.2) pk S.ob (fun p h => (hp p h).2.2) S.st hR.2
  have S' := SOk.after S n1 pk hp f1 f2 f3 f4 (mst.len r.2) g2 g1
  obtain ⟨⟨p0, vs, rfl, z1, z2, z3, z4, z5, z6⟩, _⟩ := hR
  have hH1 : H1 p0 = none := by rw [restH_out z2] at z1; exact z1
  have hH : H p0 = none := n1.hh.free hH1
  refine hr r F' (ad ++ [p0]) _ H' ((SOk.push2 S' (fun z => S.st p0 z hH) z3 (S.gh.free hH) z4 z5 z6 ?_).set ⟨p0, by rw [S'.olen]; simp, rfl⟩) q
  obtain ⟨L, hL, hL2⟩ := SOk.afterL S n1 pk hp f1 f2 f3 f4 (mst.len r.2) g2 g1
  exact ⟨L, hL, fun k hk => (hL2 k p0 hk) hH⟩
theorem bj_asO {A : ArM X.K γ} {mf : γ → Res (List α)} {ma : Res γ} {kk : List α → Res ρ} {en : Enc X.K α} {i : Nat} {y : Str} {py spos : Pos} (am : Amb X Z k) (C : Cal X.prog X.w X.K X.mg X.base x j (spM X.mg A mf (rmO en))) (hj : j ≤ k) (ha : AMJ X Z sp (e :: es) ma A [none]) (hr : ∀ r, BJ X Z Qr D ⟨sp.sl.set i (.own sp.ob.length), sp.ob ++ [.lst none en r]⟩ rest (kk r)) (hn : nst e = true := by rfl) (hg : Gl X x := by rfl)
    (hpl : (backTo pos (starEach es X.env)).any (·.1) = false := by rfl) (hdb : (x == ("__debug__" : Str)) = false := by decide) (hi : X.N[i]? = some y := by rfl) (hx : Loc X.env.scope y := by first | exact Or.inl rfl | exact Or.inr rfl)
    (hs : swapsWith (.Call (.Name x fp) (e :: es) [] pos) (some (.Name y py)) spos.line X.env = pure false := by rfl) (hf : X.fn y = true ∨ X.env.scope.names.lookup y = some .local := by first | exact .inl rfl | exact .inr rfl) : BJ X Z Qr D sp (.Assign [.Name y py] (.Call (.Name x fp) (e :: es) [] pos) spos :: rest) ((ma.bi mf).bi kk) := fun F ad σ H S hm => by
  refine seq (ofS (ps_set am.nd hi hx pe_w hs hf) ?_)
  refine callM_core am C hj ha hn hg hpl hdb F ad σ H _ S (hm.bi.imp fun r q F1 H1 F' H' v ps n1 pk hp f1 f2 f3 f4 hR => ?_)
  have hps : ∃ p, ps = [p] ∧ H p = none := by
    cases pk with
    | cons r rr =>
      cases rr
      exact ⟨_, rfl, r⟩
  obtain ⟨p, rfl, hpn⟩ := hps
  have g1 : ∀ (k : Nat) (o : Ob X.K), sp.ob[k]? = some o → (sp.ob[k]? = some o ∧ some k ∉ [(none : Option Nat)]) ∨ ((∃ p, ad[k]? = some p ∧ obOk Z.G F' H' o p) ∧ ∀ (α : Type) (t : Option Addr) (e : PkE X.K α) (xss : α), o ≠ .pk t e xss) := fun k o h => .inl ⟨h, by simp⟩
  have g2 : ∀ q ∈ [p], q ∈ ad → H' q ≠ none := fun q hq ha => by
    rw [List.mem_singleton] at hq
    subst hq
    exact absurd hpn (S.st q ha)
  have S' := SOk.after S n1 pk hp f1 f2 f3 f4 rfl g2 g1
  obtain ⟨p0, vs, rfl, z1, z3, z4, z5, z6⟩ := hR
  have hH : H p0 = none := by
    by_cases z : p0 ∈ [p]
    · rw [List.mem_singleton] at z
      rw [z]; exact hpn
    · rw [restH_out z] at z1
      exact n1.hh.free z1
  refine hr r F' (ad ++ [p0]) _ H' ((SOk.push2 S' (fun z => S.st p0 z hH) z3 (S.gh.free hH) z4 z5 z6 ?_).set ⟨p0, by rw [S'.olen]; simp, rfl⟩) q
  obtain ⟨L, hL, hL2⟩ := SOk.afterL S n1 pk hp f1 f2 f3 f4 rfl g2 g1
  exact ⟨L, hL, fun k hk => (hL2 k p0 hk) hH⟩
theorem bj_exM_p {A : ArM X.K γ} {mf : γ → Res (β × δ)} {g : γ} {kk : β × δ → Res ρ} {en : Enc X.K β} {pos' : Pos} (am : Amb X Z k) (C : Cal X.prog X.w X.K X.mg X.base x j (spM X.mg A mf (rmV en obs))) (hj : j ≤ k) (ha : AMJ X Z sp (e :: es) (.ok g) A ks) (mst : MSt sp.ob ks obs nob) (hr : ∀ r, BJ X Z Qr D ⟨sp.sl, nob r.2⟩ rest (kk r)) (hn : nst e = true := by rfl) (hg : Gl X x := by rfl)
    (hpl : (backTo pos (starEach es X.env)).any (·.1) = false := by rfl) (hdb : (x == ("__debug__" : Str)) = false := by decide) (hw : swapsWith (.Call (.Name x fp) (e :: es) [] pos) none pos'.line X.env = pure false := by rfl) : BJ X Z Qr D sp (.Expr (.Call (.Name x fp) (e :: es) [] pos) pos' :: rest) ((mf g).bi kk) := bj_exM am C hj ha mst hr hn hg hpl hdb hw
theorem bj_asM_p {A : ArM X.K γ} {mf : γ → Res (β × δ)} {g : γ} {kk : β × δ → Res ρ} {en : Enc X.K β} {i : Nat} {y : Str} {py spos : Pos} (am : Amb X Z k) (C : Cal X.prog X.w X.K X.mg X.base x j (spM X.mg A mf (rmV en obs))) (hj : j ≤ k) (ha : AMJ X Z sp (e :: es) (.ok g) A ks) (mst : MSt sp.ob ks obs nob) (hr : ∀ r, BJ X Z Qr D ⟨sp.sl.set i (.val en r.1), nob r.2⟩ rest (kk r)) (hn : nst e = true := by rfl) (hg : Gl X x := by rfl)
    (hpl : (backTo pos (starEach es X.env)).any (·.1) = false := by rfl) (hdb : (x == ("__debug__" : Str)) = false := by decide) (hi : X.N[i]? = some y := by rfl) (hx : Loc X.env.scope y := by first | exact Or.inl rfl | exact Or.inr rfl)
    (hs : swapsWith (.Call (.Name x fp) (e :: es) [] pos) (some (.Name y py)) spos.line X.env = pure false := by rfl) (hf : X.fn y = true ∨ X.env.scope.names.lookup y = some .local := by first | exact .inl rfl | exact .inr rfl) : BJ X Z Qr D sp (.Assign [.Name y py] (.Call (.Name x fp) (e :: es) [] pos) spos :: rest) ((mf g).bi kk) := bj_asM am C hj ha mst hr hn hg hpl hdb hi hx hs hf
theorem bj_asMN_p {A : ArM X.K γ} {mf : γ → Res (List α × δ)} {g : γ} {kk : List α × δ → Res ρ} {en : Enc X.K α} {i : Nat} {y : Str} {py spos : Pos} (am : Amb X Z k) (C : Cal X.prog X.w X.K X.mg X.base x j (spM X.mg A mf (rmN en obs))) (hj : j ≤ k) (ha : AMJ X Z sp (e :: es) (.ok g) A ks) (mst : MSt sp.ob ks obs nob) (hr : ∀ r, BJ X Z Qr D ⟨sp.sl.set i (.own (nob r.2).length), nob r.2 ++ [.lst none en r.1]⟩ rest (kk r)) (hn : nst e = true := by rfl) (hg : Gl X x := by rfl)
    (hpl : (backTo pos (starEach es X.env)).any (·.1) = false := by rfl) (hdb : (x == ("__debug__" : Str)) = false := by decide) (hi : X.N[i]? = some y := by rfl) (hx : Loc X.env.scope y := by first | exact Or.inl rfl | exact Or.inr rfl)
    (hs : swapsWith (.Call (.Name x fp) (e :: es) [] pos) (some (.Name y py)) spos.line X.env = pure false := by rfl) (hf : X.fn y = true ∨ X.env.scope.names.lookup y = some .local := by first | exact .inl rfl | exact .inr rfl) : BJ X Z Qr D sp (.Assign [.Name y py] (.Call (.Name x fp) (e :: es) [] pos) spos :: rest) ((mf g).bi kk) := bj_asMN am C hj ha mst hr hn hg hpl hdb hi hx hs hf
theorem bj_asO_p {A : ArM X.K γ} {mf : γ → Res (List α)} {g : γ} {kk : List α → Res ρ} {en : Enc X.K α} {i : Nat} {y : Str} {py spos : Pos} (am : Amb X Z k) (C : Cal X.prog X.w X.K X.mg X.base x j (spM X.mg A mf (rmO en))) (hj : j ≤ k) (ha : AMJ X Z sp (e :: es) (.ok g) A [none]) (hr : ∀ r, BJ X Z Qr D ⟨sp.sl.set i (.own sp.ob.length), sp.ob ++ [.lst none en r]⟩ rest (kk r)) (hn : nst e = true := by rfl) (hg : Gl X x := by rfl)
    (hpl : (backTo pos (starEach es X.env)).any (·.1) = false := by rfl) (hdb : (x == ("__debug__" : Str)) = false := by decide) (hi : X.N[i]? = some y := by rfl) (hx : Loc X.env.scope y := by first | exact Or.inl rfl | exact Or.inr rfl)
    (hs : swapsWith (.Call (.Name x fp) (e :: es) [] pos) (some (.Name y py)) spos.line X.env = pure false := by rfl) (hf : X.fn y = true ∨ X.env.scope.names.lookup y = some .local := by first | exact .inl rfl | exact .inr rfl) : BJ X Z Qr D sp (.Assign [.Name y py] (.Call (.Name x fp) (e :: es) [] pos) spos :: rest) ((mf g).bi kk) := bj_asO am C hj ha hr hn hg hpl hdb hi hx hs hf
end
end Wk

set_option Elab.async false
set_option linter.all false
set_option maxRecDepth 100000
set_option maxHeartbeats 4000000
namespace Wk
open PySem PySem.Spec PyProof.Rows L2
theorem Paired.get {α β : Type} {R : α → β → Prop} : ∀ {xs : List α} {ys : List β} {i : Nat} {y : β}, Paired R xs ys → ys[i]? = some y → ∃ x, xs[i]? = some x ∧ R x y
  | _, _, _, _, .nil, h => by simp at h
  | _, _, 0, _, .cons r _, h => by
    simp at h; subst h; exact ⟨_, rfl, r⟩
  | _, _, i + 1, _, .cons _ t, h => by
    obtain ⟨v, h1, h2⟩ := Paired.get (i := i) t (by simpa using h)
    exact ⟨v, by simpa using h1, h2⟩
section
variable {X : Cx} {Z : Fz} {sp : Spec X.K} {a b c e : Expr} {es : List Expr} {pos p p2 fp : Pos} {α β γ δ ρ θ : Type} {k j : Nat} {x : Str} {F F' H H' : Hp} {ad : List Addr} {σ : Sg} {Qr : ρ → Prop} {D : Ends} {st : Stmt} {st' rest body : List Stmt} {m : Res ρ} {t : Option Addr} {tg it : Expr}
/-! ### lists of lists of ours -/
def llOk {K : Frag} (G F H : Hp) {α : Type} (t : Option Addr) (e : Enc K α) (l : List Addr) (xss : List (List α)) (p : Addr) : Prop :=
  H p = some (.lst (l.map V.ref)) ∧ l.length ≤ sizeLine ∧ Paired (fun q xs => ∃ vs, H q = some (.lst vs) ∧ vs.length ≤ sizeLine ∧ Reps e F vs xs) l xss ∧ F p = none ∧ G p = none ∧ ∀ q, t = some q → p = q
theorem pk_ll {K : Frag} {G : Hp} {en : Enc K α} {l : List Addr} {xss : List (List α)} {q : Addr} : pkOk G F H t (pkLL en) l xss q ↔ llOk G F H t en l xss q := ⟨fun ⟨⟨h1, h2, h3⟩, h4, h5, h6⟩ => ⟨h1, h2, h3, h4, h5, h6⟩, fun ⟨h1, h2, h3, h4, h5, h6⟩ => ⟨⟨h1, h2, h3⟩, h4, h5, h6⟩⟩
theorem llOk.go {K : Frag} {G : Hp} {en : Enc K α} {l : List Addr} {xss : List (List α)} {q : Addr} (f : Same F F') (hl : ∀ q ∈ l, ∀ o, H q = some o → H' q = some o) (hp : ∀ o, H q = some o → H' q = some o) (hF : F' q = none) (h : llOk G F H t en l xss q) : llOk G F' H' t en l xss q := pk_ll.mp ((pk_ll.mpr h).go f hl hp hF)
theorem SOk.llset {K : Frag} {sp : Spec K} {en : Enc K α} {xss xss' : List (List α)} {o : Nat} {q0 : Addr} {L : Nat → List Addr} {l' : List Addr} (S : SOk Z F ad sp σ H) (W : LfW Z.G F H ad sp.ob L) (hp : ad[o]? = some q0) (hF : F q0 = none) (hG : Z.G q0 = none) (hol : o < sp.ob.length)
    (ha : ∀ a, a ≠ q0 → a ∉ l' → H' a = H a) (hb : ∀ q ∈ l', F q = none ∧ Z.G q = none ∧ q ∉ ad ∧ H' q ≠ none ∧ ∀ k, k ≠ o → q ∉ L k) (hn : l'.Nodup) (hd : llOk Z.G F H' t en l' xss' q0) : SOk Z F ad ⟨sp.sl, sp.ob.set o (.lls t en xss')⟩ σ H' := by
  have keep : ∀ a, F a ≠ none ∨ Z.G a ≠ none → H' a = H a := fun a h => ha a (fun z => by subst z; rcases h with h | h; exact h hF; exact h hG) fun z => by
    rcases h with h | h
    · exact h (hb a z).1
    · exact h (hb a z).2.1
  have others : ∀ (k : Nat) (p : Addr), k ≠ o → ad[k]? = some p → p ≠ q0 ∧ p ∉ l' := fun k p hk hkp => ⟨fun z => by
    subst z
    have l1 := getElem?_some_of hkp
    have l2 := getElem?_some_of hp
    rw [List.getElem?_eq_getElem l1] at hkp
    rw [List.getElem?_eq_getElem l2] at hp
    exact hk ((List.getElem_inj S.nd).mp ((Option.some.inj hkp).trans (Option.some.inj hp).symm)), fun z => (hb p z).2.2.1 (List.mem_of_getElem? hkp)⟩
  refine ⟨S.f0, fun a o h => ?_, fun a o h => ?_, S.fg, S.nd, fun a h => ?_, S.len, S.sl, by simp [S.olen], fun k ob h => ?_, ⟨fun k => if k = o then l' else L k, fun k q hq => ?_, fun k q hq k' hq' => ?_, fun k => ?_, fun k α' t' e' xs' h => ?_⟩⟩
  · rw [keep a (.inl (by rw [h]; exact fun z => nomatch z))]
    exact S.fh _ _ h
  · rw [keep a (.inr (by rw [h]; exact fun z => nomatch z))]
    exact S.gh _ _ h
  · by_cases e : a = q0
    · rw [e, hd.1]
      exact fun z => nomatch z
    · rw [ha a e fun z => (hb a z).2.2.1 h]
      exact S.st a h
  · have h : (sp.ob.set o (.lls t en xss'))[k]? = some ob := h
    by_cases e : k = o
    · subst e
      rw [List.getElem?_set_self hol] at h
      cases h
      exact ⟨q0, hp, trivial⟩
    · rw [List.getElem?_set_ne (Ne.symm e)] at h
      obtain ⟨p, h1, h2⟩ := S.ob k ob h
      refine ⟨p, h1, ?_⟩
      obtain ⟨n1, n2⟩ := others k p e h1
      cases ob with
      | dead => trivial
      | pk _ _ _ => trivial
      | gen t' e' ys =>
        obtain ⟨ws, g1, g2⟩ := h2
        exact ⟨ws, by rw [ha p n1 n2]; exact g1, g2⟩
      | lst t' e' ys =>
        obtain ⟨ws, g1, g2⟩ := h2
        exact ⟨ws, by rw [ha p n1 n2]; exact g1, g2⟩
  · have hq : q ∈ (if k = o then l' else L k) := hq
    by_cases e : k = o
    · rw [if_pos e] at hq
      obtain ⟨a, b, c, d, _⟩ := hb q hq
      exact ⟨c, a, b, d⟩
    · rw [if_neg e] at hq
      obtain ⟨a, b, c, d⟩ := W.di k q hq
      refine ⟨a, b, c, ?_⟩
      rw [ha q (fun z => by subst z; exact a (List.mem_of_getElem? hp)) fun z => (hb q z).2.2.2.2 k e hq]
      exact d
  · have hq : q ∈ (if k = o then l' else L k) := hq
    have hq' : q ∈ (if k' = o then l' else L k') := hq'
    by_cases e : k = o
    · rw [if_pos e] at hq
      by_cases e' : k' = o
      · rw [e, e']
      · rw [if_neg e'] at hq'
        exact absurd hq' ((hb q hq).2.2.2.2 k' e')
    · rw [if_neg e] at hq
      by_cases e' : k' = o
      · rw [if_pos e'] at hq'
        exact absurd hq ((hb q hq').2.2.2.2 k e)
      · rw [if_neg e'] at hq'
        exact W.un k q hq k' hq'
  · show (if k = o then l' else L k).Nodup
    split
    · exact hn
    · exact W.nd k
  · have h : (sp.ob.set o (.lls t en xss'))[k]? = some (.pk t' e' xs') := h
    by_cases e : k = o
    · subst e
      rw [List.getElem?_set_self hol] at h
      cases h
      refine ⟨q0, hp, ?_⟩
      show pkOk _ _ _ _ _ (if k = k then l' else L k) _ _
      rw [if_pos rfl]
      exact pk_ll.mpr hd
    · rw [List.getElem?_set_ne (Ne.symm e)] at h
      obtain ⟨p, h1, h2⟩ := W.ok k α' t' e' xs' h
      obtain ⟨n1, n2⟩ := others k p e h1
      refine ⟨p, h1, ?_⟩
      show pkOk _ _ _ _ _ (if k = o then l' else L k) _ _
      rw [if_neg e]
      exact h2.go (Same.refl _) (fun q hq o z => by rw [ha q (fun y => by subst y; exact (W.di k q hq).1 (List.mem_of_getElem? hp)) fun y => (hb q y).2.2.2.2 k e hq]; exact z) (fun o z => by rw [ha p n1 n2]; exact z) h2.2.1
/-- an empty list of ours, for lists of ours -/
theorem bj_ownLL {en : Enc X.K α} {i : Nat} {pos' : Pos} (am : Amb X Z k) (h : FJ X Z sp e (.ok ([] : List (List α))) (eL en)) (hr : BJ X Z Qr D ⟨sp.sl.set i (.own sp.ob.length), sp.ob ++ [.lls none en []]⟩ rest m) (hi : X.N[i]? = some x := by rfl) (hx : Loc X.env.scope x := by first | exact Or.inl rfl | exact Or.inr rfl)
    (hs : swapsWith e (some (.Name x pos')) pos.line X.env = pure false := by rfl) (hf : X.fn x = true ∨ X.env.scope.names.lookup x = some .local := by first | exact .inl rfl | exact .inr rfl) :
    BJ X Z Qr D sp (.Assign [.Name x pos'] e pos :: rest) m := fun F ad σ H S hm => by
  refine seq (ofS (ps_set am.nd hi hx pe_w hs hf) ?_)
  refine h F ad σ H _ S (fun F' H' q vs n h1 h2 h3 hz h4 => ?_)
  have S1 := S.push n h1 h2 h3 hz h4
  cases h4
  have hp : (ad ++ [q])[sp.ob.length]? = some q := by rw [S.olen]; simp
  obtain ⟨L, W⟩ := S1.lf
  have S2 := S1.llset (t := none) (en := en) (xss := ([] : List (List α))) (xss' := []) (o := sp.ob.length) (q0 := q) (l' := []) (L := L) W hp h2 (S.gh.free h1) (by simp) (fun _ _ _ => rfl) (fun _ h => nomatch h) List.nodup_nil ⟨h3, Nat.zero_le _, .nil, h2, S.gh.free h1, fun _ z => nomatch z⟩
  have e : (sp.ob ++ [Ob.lst none (eL en) []]).set sp.ob.length (.lls none en []) = sp.ob ++ [.lls none en []] := by
    rw [List.set_append_right _ _ (Nat.le_refl _), Nat.sub_self]
    rfl
  have S2 : SOk Z F' (ad ++ [q]) ⟨sp.sl, sp.ob ++ [.lls none en []]⟩ σ H' := by
    rw [← e]
    exact S2
  exact hr F' (ad ++ [q]) _ H' (S2.set ⟨q, by rw [S.olen]; simp, rfl⟩) hm
theorem SOk.ll {en : Enc X.K α} {xss : List (List α)} {i o : Nat} (S : SOk Z F ad sp σ H) (hs : sp.sl[i]? = some (.own o)) (ho : sp.ob[o]? = some (.lls t en xss)) : ∃ q L, σ[i]? = some (some (.ref q)) ∧ ad[o]? = some q ∧ LfW Z.G F H ad sp.ob L ∧ llOk Z.G F H t en (L o) xss q := by
  obtain ⟨o', h1, q, h2, h3⟩ := S.sl i _ hs
  obtain ⟨L, W⟩ := S.lf
  obtain ⟨p, h4, h5⟩ := W.ok o _ t (pkLL en) xss ho
  rw [h2] at h4
  have e : q = p := Option.some.inj h4
  subst e
  exact ⟨q, L, by rw [h1, h3], h2, W, pk_ll.mp h5⟩
/-- x.append(a new list) -/
theorem bj_llapp {en : Enc X.K α} {me : Res (List α)} {kk : List (List α) → Res ρ} {i o : Nat} {xss : List (List α)} {apos cpos : Pos} (hs : sp.sl[i]? = some (.own o)) (ho : sp.ob[o]? = some (.lls t en xss)) (h : FJ X Z sp e me en) (hr : ∀ v, BJ X Z Qr D ⟨sp.sl, sp.ob.set o (.lls t en v)⟩ rest (kk v)) (hN : X.N[i]? = some x := by rfl) (hn : nst e = true := by rfl)
    (hline : (apos.endLine == cpos.line) = true := by rfl) (hv : Vis X.env.scope x := by first | exact Or.inl rfl | exact Or.inr (Or.inl rfl) | exact Or.inr (Or.inr rfl)) (hd : (x == ("__debug__" : Str)) = false := by decide) (hcd : (x == ("__classdict__" : Str)) = false := by decide)
    (hbase : attributeBase (.Name x p) "append" X.env (eval (.Name x p) X.env) = eval (.Name x p) X.env := by rfl)
    (hw : swapsWith (.Call (.Attribute (.Name x p) "append" apos) [e] [] cpos) none pos.line X.env = pure false := by rfl) :
    BJ X Z Qr D sp (.Expr (.Call (.Attribute (.Name x p) "append" apos) [e] [] cpos) pos :: rest) (me.bi fun y => (appM xss y).bi kk) := fun F ad σ H S hm => by
  refine seq (ofS (ps_expr (pe_bm PySem.F.plainAttrs_list PySem.F.slot_list_append PySem.F.type_list_append mt_append (pe_var (i := i) hN hv hd hcd) (pa_cons pe_w pa_nil (star_cons hn)) hbase (by rw [star_cons hn]; rfl) hline (star_cons hn) rfl) hw) ?_)
  obtain ⟨q0, L, h1, h2, W, hk⟩ := S.ll hs ho
  refine ⟨.ref q0, h1, tyV_own hk.1, ?_⟩
  refine h F ad σ H _ S (hm.bi.imp fun y g F1 H1 q ws n r1 r2 r3 rz r4 => ?_)
  obtain ⟨c, g⟩ := g.bi.gd
  have S1 := S.nx n
  have W1 := W.nx n
  have hk1 : llOk Z.G F1 H1 t en (L o) xss q0 := hk.go n.ff (fun q _ => n.hh q) (n.hh q0) (n.non hk.2.2.2.1 (by rw [hk.1]; exact fun z => nomatch z))
  obtain ⟨k1, k2, k3, k4, k5, k6⟩ := hk1
  have hlen : (L o).length = xss.length := Paired.length k3
  have hl : ((L o).map V.ref).length < sizeLine := by rw [List.length_map, hlen]; exact c
  refine ⟨q0, (L o).map V.ref, .ref q, rfl, rfl, k1, hl, ?_⟩
  have nq : q ≠ q0 := fun z => by subst z; rw [hk.1] at r1; cases r1
  have nL : ∀ k, q ∉ L k := fun k z => (W.di k q z).2.2.2 r1
  have nd : ∀ x ∈ L o, x ≠ q0 := fun x hx z => by subst z; exact (W.di o x hx).1 (List.mem_of_getElem? h2)
  refine hr _ F1 ad σ _ (S1.llset (t := t) (en := en) (xss := xss) (xss' := xss ++ [y]) (o := o) (q0 := q0) (l' := L o ++ [q]) (L := L) W1 h2 k4 k5 (getElem?_some_of ho) (fun a ha _ => upd_ne ha) (fun x hx => ?_) ?_ ⟨?_, ?_, ?_, k4, k5, k6⟩) g
  · rcases List.mem_append.mp hx with hx | hx
    · obtain ⟨a, b, c, d⟩ := W1.di o x hx
      exact ⟨b, c, a, by rw [upd_ne (nd x hx)]; exact d, fun k hk z => hk ((W.un o x hx k z))⟩
    · rw [List.mem_singleton] at hx
      subst hx
      exact ⟨r2, S.gh.free r1, fun z => S.st x z r1, by rw [upd_ne nq, r3]; exact (fun z => nomatch z), fun k _ => nL k⟩
  · rw [List.nodup_append]
    exact ⟨W.nd o, by simp, fun a ha b hb z => by rw [List.mem_singleton] at hb; subst hb; subst z; exact nL o ha⟩
  · rw [upd_same, List.map_append]
    rfl
  · rw [List.length_append, List.length_singleton]
    rw [List.length_map] at hl
    exact hl
  · refine Paired.snoc ?_ ⟨ws, by rw [upd_ne nq]; exact r3, rz, r4⟩
    have : ∀ {l : List Addr} {zs : List (List α)}, (∀ x ∈ l, x ≠ q0) → Paired (fun a xs => ∃ vs, H1 a = some (.lst vs) ∧ vs.length ≤ sizeLine ∧ Reps en F1 vs xs) l zs → Paired (fun a xs => ∃ vs, (L2.upd H1 q0 (.lst ((L o).map V.ref ++ [.ref q]))) a = some (.lst vs) ∧ vs.length ≤ sizeLine ∧ Reps en F1 vs xs) l zs := fun {l zs} hne hz => by
      induction hz with
      | nil => exact .nil
      | cons r _ ih =>
        obtain ⟨vs, z1, z2⟩ := r
        exact .cons ⟨vs, by rw [upd_ne (hne _ (List.mem_cons_self ..))]; exact z1, z2⟩ (ih fun x hx => hne x (List.mem_cons_of_mem _ hx))
    exact this nd k3
/-- x[i].append(e) -/
theorem ll_at {xss : List (List α)} {l : List Addr} {R : Addr → List α → Prop} (h : Paired R l xss) {i : Int} {ys : List α} (hi : atI xss i = some ys) : ∃ n q, ixN xss.length i = some n ∧ l[n]? = some q ∧ xss[n]? = some ys ∧ R q ys ∧ atI (l.map V.ref) i = some (.ref q) := by
  unfold atI at hi
  cases e : ixN xss.length i with
  | none => rw [e] at hi; cases hi
  | some n =>
    rw [e] at hi
    obtain ⟨q, h1, h2⟩ := Paired.get h hi
    refine ⟨n, q, rfl, h1, hi, h2, ?_⟩
    unfold atI
    rw [List.length_map, show l.length = xss.length from Paired.length h, e]
    show (l.map V.ref)[n]? = _
    rw [List.getElem?_map, h1]
    rfl
theorem bj_llsub {en : Enc X.K α} {me : Res α} {mi : Res Int} {kk : List (List α) → Res ρ} {i o : Nat} {xss : List (List α)} {ie : Expr} {spos apos cpos : Pos} (hs : sp.sl[i]? = some (.own o)) (ho : sp.ob[o]? = some (.lls t en xss)) (hi : EJ X Z sp ie mi eI) (h : EJ X Z sp e me en) (hr : ∀ v, BJ X Z Qr D ⟨sp.sl, sp.ob.set o (.lls t en v)⟩ rest (kk v)) (hN : X.N[i]? = some x := by rfl) (hn : nst e = true := by rfl) (hpi : PlainIx ie := by intro _ _; rfl)
    (hline : (apos.endLine == cpos.line) = true := by rfl) (hv : Vis X.env.scope x := by first | exact Or.inl rfl | exact Or.inr (Or.inl rfl) | exact Or.inr (Or.inr rfl)) (hd : (x == ("__debug__" : Str)) = false := by decide) (hcd : (x == ("__classdict__" : Str)) = false := by decide)
    (hbase : attributeBase (.Subscript (.Name x p) ie spos) "append" X.env (eval (.Subscript (.Name x p) ie spos) X.env) = eval (.Subscript (.Name x p) ie spos) X.env := by rfl)
    (hw : swapsWith (.Call (.Attribute (.Subscript (.Name x p) ie spos) "append" apos) [e] [] cpos) none pos.line X.env = pure false := by rfl) :
    BJ X Z Qr D sp (.Expr (.Call (.Attribute (.Subscript (.Name x p) ie spos) "append" apos) [e] [] cpos) pos :: rest) (mi.bi fun j => (geti xss j).bi fun ys => me.bi fun y => (appM ys y).bi fun zs => (seti xss j zs).bi kk) := fun F ad σ H S hm => by
  refine seq (ofS (ps_expr (pe_bm PySem.F.plainAttrs_list PySem.F.slot_list_append PySem.F.type_list_append mt_append (pe_ix ix_list (pe_var (i := i) hN hv hd hcd) pe_w hpi) (pa_cons pe_w pa_nil (star_cons hn)) hbase (by rw [star_cons hn]; rfl) hline (star_cons hn) rfl) hw) ?_)
  obtain ⟨q0, L, h1, h2, W, hk⟩ := S.ll hs ho
  refine ⟨.ref q0, h1, ?_⟩
  refine hi F ad σ H _ S (hm.bi.imp fun jj g F1 H1 v n1 r1 => ?_)
  have r1 : v = .int jj := r1
  subst r1
  have hk1 : llOk Z.G F1 H1 t en (L o) xss q0 := hk.go n1.ff (fun q _ => n1.hh q) (n1.hh q0) (n1.non hk.2.2.2.1 (by rw [hk.1]; exact fun z => nomatch z))
  obtain ⟨ys, hat, g⟩ := g.bi.geti
  obtain ⟨k1, k2, k3, k4, k5, k6⟩ := hk1
  obtain ⟨n, q, e1, e2, e3, ⟨ws, e4, ez, e5⟩, e6⟩ := ll_at k3 hat
  refine ⟨q0, (L o).map V.ref, jj, .ref q, rfl, rfl, SqL.of k1, e6, tyV_own e4, ?_⟩
  have hql : q ∈ L o := List.mem_of_getElem? e2
  obtain ⟨d1, d2, d3, d4⟩ := W.di o q hql
  refine h F1 ad σ H1 _ (S.nx n1) (g.bi.imp fun y g F2 H2 u n2 r2 => ?_)
  obtain ⟨c, g⟩ := g.bi.gd
  have n12 := n1.trans n2
  have S2 := S.nx n12
  have W2 := W.nx n12
  have hl : ws.length < sizeLine := by rw [e5.length]; exact c
  have hq2 := n2.hh _ _ e4
  refine ⟨q, ws, u, rfl, rfl, hq2, hl, ?_⟩
  have hset : seti xss jj (ys ++ [y]) = .ok (xss.set n (ys ++ [y])) := by
    unfold seti
    rw [e1]
  rw [hset] at g
  have nd : ∀ x ∈ L o, x ≠ q0 := fun x hx z => by subst z; exact (W.di o x hx).1 (List.mem_of_getElem? h2)
  have nq0 : q0 ≠ q := fun z => nd q hql z.symm
  have k4' := n2.non k4 (by rw [k1]; exact fun z => nomatch z)
  refine hr _ F2 ad σ _ (S2.llset (t := t) (en := en) (xss := xss) (xss' := xss.set n (ys ++ [y])) (o := o) (q0 := q0) (l' := L o) (L := L) W2 h2 k4' k5 (getElem?_some_of ho) (fun a _ ha => upd_ne fun z => ha (z ▸ hql)) (fun x hx => ?_) (W.nd o) ⟨?_, k2, ?_, k4', k5, k6⟩) g
  · obtain ⟨a, b, c, d⟩ := W2.di o x hx
    refine ⟨b, c, a, ?_, fun k hk z => hk (W.un o x hx k z)⟩
    by_cases e : x = q
    · rw [e, upd_same]
      exact fun z => nomatch z
    · rw [upd_ne e]
      exact d
  · rw [upd_ne nq0]
    exact n2.hh _ _ k1
  · have key : ∀ {l : List Addr} {zs : List (List α)} {n : Nat}, l.Nodup → l[n]? = some q → Paired (fun a xs => ∃ vs, H1 a = some (.lst vs) ∧ vs.length ≤ sizeLine ∧ Reps en F1 vs xs) l zs → Paired (fun a xs => ∃ vs, (L2.upd H2 q (.lst (ws ++ [u]))) a = some (.lst vs) ∧ vs.length ≤ sizeLine ∧ Reps en F2 vs xs) l (zs.set n (ys ++ [y])) := by
      intro l zs n hnd hn hz
      induction hz generalizing n with
      | nil => exact .nil
      | cons r tl ih =>
        rename_i a0 b0 l0 z0
        rw [List.nodup_cons] at hnd
        obtain ⟨vs, z1, z2, z3⟩ := r
        cases n with
        | zero =>
          have e : a0 = q := by simpa using hn
          subst e
          refine .cons ⟨ws ++ [u], upd_same, by rw [List.length_append]; exact hl, (e5.mono n2.ff).snoc r2⟩ ?_
          have rest : ∀ {l : List Addr} {zs : List (List α)}, a0 ∉ l → Paired (fun a xs => ∃ vs, H1 a = some (.lst vs) ∧ vs.length ≤ sizeLine ∧ Reps en F1 vs xs) l zs → Paired (fun a xs => ∃ vs, (L2.upd H2 a0 (.lst (ws ++ [u]))) a = some (.lst vs) ∧ vs.length ≤ sizeLine ∧ Reps en F2 vs xs) l zs := fun {l zs} hne hz => by
            induction hz with
            | nil => exact .nil
            | cons r _ ih =>
              obtain ⟨vs, z1, z2, z3⟩ := r
              rw [List.mem_cons, not_or] at hne
              exact .cons ⟨vs, by rw [upd_ne (Ne.symm hne.1)]; exact n2.hh _ _ z1, z2, z3.mono n2.ff⟩ (ih hne.2)
          exact rest hnd.1 tl
        | succ n =>
          have hn' : l0[n]? = some q := by simpa using hn
          have hm := List.mem_of_getElem? hn'
          exact .cons ⟨vs, by rw [upd_ne (fun z => hnd.1 (by rw [z]; exact hm))]; exact n2.hh _ _ z1, z2, z3.mono n2.ff⟩ (ih hnd.2 hn')
    exact key (W.nd o) e2 k3
/-- x[i], read -/
theorem lj_llix {en : Enc X.K α} {mi : Res Int} {i o : Nat} {xss : List (List α)} {ie : Expr} (hi : EJ X Z sp ie mi eI) (hs : sp.sl[i]? = some (.own o) := by rfl) (ho : sp.ob[o]? = some (.lls t en xss) := by rfl) (hN : X.N[i]? = some x := by rfl) (hpi : PlainIx ie := by intro _ _; rfl)
    (hv : Vis X.env.scope x := by first | exact Or.inl rfl | exact Or.inr (Or.inl rfl) | exact Or.inr (Or.inr rfl)) (hd : (x == ("__debug__" : Str)) = false := by decide) (hcd : (x == ("__classdict__" : Str)) = false := by decide) :
    LJ X Z sp (.Subscript (.Name x p) ie pos) (mi.bi fun j => geti xss j) en := fun F ad σ H Q S hm => by
  refine ofE (pe_ix ix_list (pe_var (i := i) hN hv hd hcd) pe_w hpi) ?_
  obtain ⟨q0, L, h1, h2, W, hk⟩ := S.ll hs ho
  refine ⟨.ref q0, h1, ?_⟩
  refine hi F ad σ H _ S (hm.bi.imp fun jj g F1 H1 v n1 r1 => ?_)
  have r1 : v = .int jj := r1
  subst r1
  have hk1 : llOk Z.G F1 H1 t en (L o) xss q0 := hk.go n1.ff (fun q _ => n1.hh q) (n1.hh q0) (n1.non hk.2.2.2.1 (by rw [hk.1]; exact fun z => nomatch z))
  obtain ⟨ys, hat, g⟩ := g.geti
  obtain ⟨k1, k2, k3, k4, k5, k6⟩ := hk1
  obtain ⟨n, q, e1, e2, e3, ⟨ws, e4, ez, e5⟩, e6⟩ := ll_at k3 hat
  exact ⟨q0, (L o).map V.ref, jj, .ref q, rfl, rfl, SqL.of k1, e6, g F1 H1 q ws n1 (SqL.of e4) ez e5⟩
/-- they stay as they are from here on -/
theorem SOk.frzLL {K : Frag} {sp : Spec K} {en : Enc K α} {xss : List (List α)} (S : SOk Z F ad sp σ H) (ho : sp.ob[k]? = some (.lls t en xss)) : ∃ F', SOk Z F' ad ⟨sp.sl.map (thaw k (eL en) xss), sp.ob.set k .dead⟩ σ H := by
  obtain ⟨L, W⟩ := S.lf
  obtain ⟨p, hp, pko⟩ := W.ok k _ t (pkLL en) xss ho
  obtain ⟨k1, k2, k3, k4, k5, k6⟩ := pk_ll.mp pko
  let F' : Hp := fun a => if a = p ∨ a ∈ L k then H a else F a
  have ff : Same F F' := fun a o h => by
    show (if a = p ∨ a ∈ L k then H a else F a) = some o
    split
    · exact S.fh _ _ h
    · exact h
  have ffp : F' p = H p := if_pos (.inl rfl)
  have ffl : ∀ q ∈ L k, F' q = H q := fun q hq => if_pos (.inr hq)
  have ffo : ∀ a, a ≠ p → a ∉ L k → F' a = F a := fun a h1 h2 => if_neg (by rintro (z | z); exact h1 z; exact h2 z)
  have rep : Reps (eL en) F' ((L k).map V.ref) xss := by
    have key : ∀ {l : List Addr} {zs : List (List α)}, (∀ q ∈ l, F' q = H q) → Paired (fun q xs => ∃ vs, H q = some (.lst vs) ∧ vs.length ≤ sizeLine ∧ Reps en F vs xs) l zs → Reps (eL en) F' (l.map V.ref) zs := fun {l zs} hl hz => by
      induction hz with
      | nil => exact .nil
      | cons r _ ih =>
        obtain ⟨vs, z1, z2, z3⟩ := r
        exact .cons ⟨_, vs, rfl, by rw [hl _ (List.mem_cons_self ..)]; exact z1, z2, z3.mono ff⟩ (ih fun q hq => hl q (List.mem_cons_of_mem _ hq))
    exact key ffl k3
  have others : ∀ (i : Nat) (q : Addr), i ≠ k → ad[i]? = some q → q ≠ p ∧ q ∉ L k := fun i q hi hq => ⟨fun z => by
    subst z
    have l1 := getElem?_some_of hq
    have l2 := getElem?_some_of hp
    rw [List.getElem?_eq_getElem l1] at hq
    rw [List.getElem?_eq_getElem l2] at hp
    exact hi ((List.getElem_inj S.nd).mp ((Option.some.inj hq).trans (Option.some.inj hp).symm)), fun z => (W.di k q z).1 (List.mem_of_getElem? hq)⟩
  refine ⟨F', S.f0.trans ff, fun a o h => ?_, S.gh, fun a h => ?_, S.nd, S.st, by simp [S.len], fun i s h => ?_, by simp [S.olen], fun i o h => ?_, ⟨fun i => if i = k then [] else L i, fun i q hq => ?_, fun i q hq i' hq' => ?_, fun i => ?_, fun i α' t' e' xs' h => ?_⟩⟩
  · have h : (if a = p ∨ a ∈ L k then H a else F a) = some o := h
    split at h
    · exact h
    · exact S.fh _ _ h
  · by_cases z : a = p ∨ a ∈ L k
    · rcases z with z | z
      · subst z; exact .inr k5
      · exact .inr (W.di k a z).2.2.1
    · refine S.fg a ?_
      have : F' a = F a := if_neg z
      rw [this] at h
      exact h
  · have h : (sp.sl.map (thaw k (eL en) xss))[i]? = some s := h
    rw [List.getElem?_map] at h
    cases q : sp.sl[i]? with
    | none => rw [q] at h; cases h
    | some s0 =>
      rw [q] at h
      have e : thaw k (eL en) xss s0 = s := Option.some.inj h
      subst e
      obtain ⟨o, g1, g2⟩ := S.sl i s0 q
      refine ⟨o, g1, ?_⟩
      cases s0 with
      | any => trivial
      | val e a => exact slOk.mono (s := .val e a) ff g2
      | bor e a => exact slOk.mono (s := .bor e a) ff g2
      | own j =>
        show slOk Z.G F' ad (match Nat.beq j k with
          | true => .val (eL (eL en)) xss
          | false => .own j) o
        cases q : Nat.beq j k with
        | false => exact g2
        | true =>
          have e : j = k := Nat.eq_of_beq_eq_true q
          subst e
          obtain ⟨p', h1, h2⟩ := g2
          rw [hp] at h1
          have e : p = p' := Option.some.inj h1
          subst e
          exact ⟨.ref p, h2, p, _, rfl, by rw [ffp]; exact k1, by rw [List.length_map]; exact k2, rep⟩
  · have h : (sp.ob.set k .dead)[i]? = some o := h
    by_cases e : i = k
    · subst e
      rw [List.getElem?_set_self (getElem?_some_of ho)] at h
      cases h
      exact ⟨p, hp, trivial⟩
    · rw [List.getElem?_set_ne (Ne.symm e)] at h
      obtain ⟨p', g1, g2⟩ := S.ob i o h
      refine ⟨p', g1, ?_⟩
      obtain ⟨n1, n2⟩ := others i p' e g1
      cases o with
      | dead => trivial
      | pk _ _ _ => trivial
      | gen t' e' ys =>
        obtain ⟨us, z1, z2, z3, z4⟩ := g2
        exact ⟨us, z1, e'.mono ff z2, by rw [ffo p' n1 n2]; exact z3, z4⟩
      | lst t' e' ys =>
        obtain ⟨us, z1, zz, z2, z3, z4⟩ := g2
        exact ⟨us, z1, zz, z2.mono ff, by rw [ffo p' n1 n2]; exact z3, z4⟩
  · have hq : q ∈ (if i = k then [] else L i) := hq
    by_cases e : i = k
    · rw [if_pos e] at hq; cases hq
    · rw [if_neg e] at hq
      obtain ⟨a, b, c, d⟩ := W.di i q hq
      refine ⟨a, ?_, c, d⟩
      rw [ffo q (fun z => by subst z; exact a (List.mem_of_getElem? hp)) fun z => e (W.un k q z i hq)]
      exact b
  · have hq : q ∈ (if i = k then [] else L i) := hq
    have hq' : q ∈ (if i' = k then [] else L i') := hq'
    by_cases e : i = k
    · rw [if_pos e] at hq; cases hq
    · by_cases e' : i' = k
      · rw [if_pos e'] at hq'; cases hq'
      · rw [if_neg e] at hq
        rw [if_neg e'] at hq'
        exact W.un i q hq i' hq'
  · show (if i = k then [] else L i).Nodup
    split
    · exact List.nodup_nil
    · exact W.nd i
  · have h : (sp.ob.set k .dead)[i]? = some (.pk t' e' xs') := h
    by_cases e : i = k
    · subst e
      rw [List.getElem?_set_self (getElem?_some_of ho)] at h
      cases h
    · rw [List.getElem?_set_ne (Ne.symm e)] at h
      obtain ⟨p', h1, h2⟩ := W.ok i α' t' e' xs' h
      obtain ⟨n1, n2⟩ := others i p' e h1
      refine ⟨p', h1, ?_⟩
      show pkOk _ _ _ _ _ (if i = k then [] else L i) _ _
      rw [if_neg e]
      exact h2.go ff (fun _ _ _ z => z) (fun _ z => z) (by rw [ffo p' n1 n2]; exact h2.2.1)
theorem bj_frzLL {en : Enc X.K α} {xss : List (List α)} (ho : sp.ob[k]? = some (.lls t en xss)) (hr : BJ X Z Qr D ⟨sp.sl.map (thaw k (eL en) xss), sp.ob.set k .dead⟩ st' m) : BJ X Z Qr D sp st' m := fun F ad σ H S hm =>
  let ⟨F', S'⟩ := S.frzLL ho
  hr F' ad σ H S' hm
end
end Wk

set_option Elab.async false
set_option linter.all false
set_option maxRecDepth 100000
set_option maxHeartbeats 4000000
namespace Wk
open PySem PySem.Spec PyProof.Rows L2
@[irreducible] def fuel : Nat := 100000
theorem fuel_eq : fuel = 100000 := by unfold fuel; rfl
theorem ad1 {α : Type 1} {o : α} {ad : List Addr} (h : [o].length = ad.length) : ∃ p, ad = [p] := by
  match ad, h with
  | [p], _ => exact ⟨p, rfl⟩
theorem ad2 {α : Type 1} {o o' : α} {ad : List Addr} (h : [o, o'].length = ad.length) : ∃ p q, ad = [p, q] := by
  match ad, h with
  | [p, q], _ => exact ⟨p, q, rfl⟩
section
variable {X : Cx} {Z : Fz} {sp : Spec X.K} {a b c e : Expr} {es : List Expr} {pos p p2 fp : Pos} {α β γ δ ρ θ : Type} {k j : Nat} {x : Str} {F F' H H' : Hp} {ad : List Addr} {σ : Sg} {Qr : ρ → Prop} {D : Ends} {st : Stmt} {st' rest body : List Stmt} {m : Res ρ} {t : Option Addr} {tg it : Expr}
/-- e -/
theorem bj_ex {en : Enc X.K α} {me : Res α} {kk : α → Res ρ} (h : EJ X Z sp e me en) (hr : ∀ v, BJ X Z Qr D sp rest (kk v)) (hw : swapsWith e none pos.line X.env = pure false := by rfl) : BJ X Z Qr D sp (.Expr e pos :: rest) (me.bi kk) := fun F ad σ H S hm => by
  refine seq (ofS (ps_expr pe_w hw) ?_)
  exact h F ad σ H _ S (hm.bi.imp fun v q F' H' u n r => hr v F' ad σ H' (S.nx n) q)
end
end Wk

set_option Elab.async false
set_option linter.all false
set_option maxRecDepth 100000
set_option maxHeartbeats 4000000
namespace Wk
open PySem PySem.Spec PyProof.Rows L2
/-! ### list(reversed(x)) -/
section
variable {prog : Program} {w : World} {A : Around} {E : Value → Shared → Prop} {s : Shared}
abbrev RevI (its : Array Value) : Nat → Value → Prop := fun i v => its[its.size - 1 - i]? = some v
theorem wk_fill {R : Result → Shared → Prop} (hd : A.handled = none) {it l D : Addr} {its : Array Value} {c₀ : Nat} (hi : s.heap.IsRevIter it l ((its.size : Int) - 1)) (hx : s.heap.IsList l its) (li : l ≠ it) (Di : D ≠ it) (Dl : D ≠ l) (hz : its.size ≤ sizeLine) (hD : s.heap.get? D = some { cls := .type "list", data := .seq #[] c₀ })
    (hR : ∀ (h2 : Heap) (tk : Nat) (acc : Array Value) (c2 : Nat), (∀ b o, b ≠ D → b ≠ it → s.heap.get? b = some o → h2.get? b = some o) → h2.get? D = some { cls := .type "list", dict := none, data := .seq acc c2, slots := #[] } → ItemsOf (RevI its) acc its.size → R (.ok (.ret .none)) { s with heap := h2, toks := tk }) :
    wpAny (model prog w) A.in1 (Builtin.List.listExtendWith (.ref D) (.ref it) .none) (fun u z => match u with
      | .done f => R (.ok f) z
      | .again c => c.quiet = true ∧ codeAny (model prog w) A c R z) (fun e z => R (.error e) z) s := by
  have wk := (Walks.listRev (prog := prog) (w := w) (A := A.in1) hd it l li its).toS
  have hT : s.TypeIs (.ref it) "list_reverseiterator" := Heap.IsRevIter.typeIs hi
  have hDf : D ∉ [it, l] := fun m => by
    rcases List.mem_cons.mp m with e | m
    · exact Di e
    · exact Dl (List.mem_singleton.mp m)
  have h1 : Builtin.List.listSameRef (.ref D) (.ref it) = false := by simp [Builtin.List.listSameRef, Di]
  have e0 : ((its.size : Nat) : Int) - 1 - ((0 : Nat) : Int) = (its.size : Int) - 1 := by omega
  unfold Builtin.List.listExtendWith
  refine wpAny_bind (wpAny_typeOf hT ?_); rw [if_neg (by rw [h1]; decide)]
  refine wpAny_bind (wpAny_pyIter_revIter hi ?_); refine wpAny_bind (wpAny_holding ?_)
  unfold Builtin.List.listLengthHint
  refine wpAny_bind (wpAny_specialOf hT _root_.RT.nolen_lri ?_)
  show wpAny _ A.in1 (specialOf (Value.ref it) (Str.ofString "__length_hint__") >>= _) _ _ s
  refine wpAny_bind (wpAny_specialOf hT _root_.RT.hint_lri ?_)
  generalize hq : ("list_reverseiterator.__length_hint__" : String) = nm
  wp_delta
  rw [show splitId nm = some ("list_reverseiterator", "__length_hint__") from by rw [← hq]; decide +kernel]
  rw [← hq]
  refine wpAny_bind (wpAny_isInstance (b := true) hT (by rw [isSubtype_type]; kernel_rfl) ?_)
  refine wpAny_pure ?_; rw [if_neg (by decide)]
  refine wpAny_pure ⟨plainId_quiet F.plain_extend_loop _, codeAny_extend_loopS wk hz D hDf .none its.size 0 _ #[] c₀ rfl (Nat.zero_le _) ⟨Nat.zero_le _, by rw [e0]; exact hi, hx⟩ hD (ItemsOf.nil _) fun z acc c2 hm hz2 hacc => ?_⟩
  rw [Moved.eq_with hm]
  refine hR z.heap z.toks acc c2 (fun b o h2 h3 e => hm.heap b o (fun m => ?_) e) hz2 hacc
  rcases List.mem_cons.mp m with e2 | m
  · exact h2 e2
  · exact h3 (List.mem_singleton.mp m)
theorem wk_listRev {Q : Value → Shared → Prop} (hd : A.handled = none) {it l : Addr} {its : Array Value} (hi : s.heap.IsRevIter it l ((its.size : Int) - 1)) (hx : s.heap.IsList l its) (li : l ≠ it) (hz : its.size ≤ sizeLine)
    (hQ : ∀ (h2 : Heap) (tk : Nat) (acc : Array Value) (c2 : Nat), (∀ b o, b ≠ it → s.heap.get? b = some o → h2.get? b = some o) → h2.get? s.heap.objs.size = some { cls := .type "list", dict := none, data := .seq acc c2, slots := #[] } → ItemsOf (RevI its) acc its.size → Q (.ref s.heap.objs.size) { s with heap := h2, toks := tk }) :
    wpAny (model prog w) A (call (.type "list") [.ref it]) Q E s := by
  refine callType_codes (Q₁ := fun u z => u = .ref s.heap.objs.size ∧ z = { s with heap := s.heap.push { cls := .type "list", data := .seq #[] } }) F.called_list (F.typeCall_list_1 _) F.entry_list_init (code_list_new _ ⟨rfl, rfl⟩) fun u z hu => ?_
  obtain ⟨rfl, rfl⟩ := hu
  have hD : (s.heap.push { cls := .type "list", data := .seq #[] }).get? s.heap.objs.size = some { cls := .type "list", data := .seq #[] } := Heap.get?_push_size _ rfl
  have lti : it < s.heap.objs.size := let ⟨_, h, _⟩ := hi; Heap.lt_size h
  have ltl : l < s.heap.objs.size := let ⟨_, h, _⟩ := hx; Heap.lt_size h
  refine ⟨⟨_, hD, rfl⟩, F.args_list_init_2 _ _, ?_⟩
  generalize hDa : s.heap.objs.size = D at hD lti ltl
  have hp : ∀ b o, s.heap.get? b = some o → (s.heap.push { cls := .type "list", data := .seq #[] }).get? b = some o := fun b o e => Heap.get?_push_of_some _ e
  show wpAny _ _ (do let old ← Builtin.List.listItems (.ref D); Builtin.List.listUpdate (.ref D) (fun _ => #[]); letGo old.toList.reverse; Builtin.List.listExtendWith (.ref D) (.ref it) .none) _ _ _
  refine wpAny_bind ?_; unfold Builtin.List.listItems
  refine wpAny_bind (wpAny_seqItems hD rfl (wpAny_pure ?_))
  show wpAny _ _ (updateSeq D (fun _ => #[]) >>= fun _ => letGo (#[] : Array Value).toList.reverse >>= fun _ => Builtin.List.listExtendWith (.ref D) (.ref it) .none) _ _ _
  refine wpAny_bind (wpAny_updateSeq hD rfl ?_)
  have hD2 := Heap.get?_update_self (Obj.mapSeq (fun _ => (#[] : Array Value))) hD rfl
  have hk : ∀ b o, b ≠ D → s.heap.get? b = some o → ((s.heap.push { cls := .type "list", data := .seq #[] }).update D (Obj.mapSeq (fun _ => (#[] : Array Value)))).get? b = some o :=
    fun b o hb e => (Heap.get?_update_other _ _ (Ne.symm hb)).trans (hp b o e)
  refine wpAny_bind (wpAny_letGo ?_)
  refine wk_fill (A := A.in1) hd (hi.at fun o e => hk it o (Nat.ne_of_lt lti) e) (?_ : Heap.IsList _ l its) li (Nat.ne_of_gt lti) (Nat.ne_of_gt ltl) hz hD2 fun h2 tk acc c2 k2 g2 hacc => ?_
  · obtain ⟨o, ho, r⟩ := hx
    exact ⟨o, hk l o (Nat.ne_of_lt ltl) ho, r⟩
  · subst hDa
    exact ⟨rfl, hQ h2 tk acc c2 (fun b o hb e => k2 b o (Nat.ne_of_lt (Heap.lt_size e)) hb (hk b o (Nat.ne_of_lt (Heap.lt_size e)) e)) g2 hacc⟩
end
section
variable {X : Cx} {Z : Fz} {sp : Spec X.K} {a : Expr} {α : Type} {p p2 pos pos2 : Pos} {e : Expr}
/-- a new list, as another one backwards -/
def tRevL (K : PySem.W.Frag) (te : TE) : TE := fun σ H Q => te σ H fun v H1 => ∃ (x : Addr) (xs : List V), v = .ref x ∧ SqL K H1 x xs ∧ ∀ q, H1 q = none → Q (.ref q) (upd H1 q (.lst xs.reverse))
theorem pe_listRev {te : TE} (hc : X.calm = true) (g1 : Gl X "list") (m1 : X.mg "list" = none) (g2 : Gl X "reversed") (m2 : X.mg "reversed" = none) (he : PE X e te) (s1 : starEach [e] X.env = (false, eval e X.env) :: starEach [] X.env)
    (s2 : starEach [.Call (.Name "reversed" p2) [e] [] pos2] X.env = (false, eval (.Call (.Name "reversed" p2) [e] [] pos2) X.env) :: starEach [] X.env) : PE X (.Call (.Name "list" p) [.Call (.Name "reversed" p2) [e] [] pos2] [] pos) (tRevL X.K te) := by
  refine ⟨fun pins s σ H Q I h => ?_⟩
  refine Call_ (ld_blt I g1 m1 PyProof.Rows.boot_list (PyProof.Rows.callWith_type1 (args_cons (Call_ (ld_blt I g2 m2 PyProof.Rows.boot_reversed (PyProof.Rows.callWith_type1 (args_cons (thn (he.run pins s σ H _ I h) fun u z ⟨v, H1, I1, r1, q1⟩ => args_nil ?_) s1) s1 rfl))) s2) s2 rfl))
  obtain ⟨x, xs, ev, hq, q⟩ := q1
  subst ev
  have hu : u = Value.ref x := r1
  subst hu
  obtain ⟨its, rv, pl, hz⟩ := I1.list hq
  refine call_reversed_list pl.isList (args_nil ?_)
  have hk : ∀ b o, z.heap.get? b = some o → (z.heap.push (revObj x ((its.toArray.size : Int) - 1))).get? b = some o := fun b o e => Heap.get?_push_of_some _ e
  have hl := pl.isList
  have ltx : x < z.heap.objs.size := let ⟨_, h, _⟩ := hl; Heap.lt_size h
  have hzz : its.toArray.size ≤ sizeLine := by rw [List.size_toArray, ← rv.length]; exact hz
  have hsz : (z.heap.push (revObj x ((its.toArray.size : Int) - 1))).objs.size = z.heap.objs.size + 1 := Array.size_push ..
  refine wk_listRev (s := { z with heap := z.heap.push (revObj x ((its.toArray.size : Int) - 1)) }) (I1.ok.hd hc) ⟨_, Heap.get?_push_size _ rfl, rfl, rfl⟩ (hl.push _) (Nat.ne_of_lt ltx) hzz fun h2 tk acc c2 k2 gD hacc => ?_
  have le : z.heap.objs.size ≤ (z.heap.push (revObj x ((its.toArray.size : Int) - 1))).objs.size := by rw [hsz]; exact Nat.le_succ _
  have hacc2 : Vals xs.reverse acc.toList := _root_.RT.vals_rev rv hacc
  refine ⟨.ref _, upd H1 _ (.lst xs.reverse), I1.laid (t' := tk) (fun b o e => k2 b o (Nat.ne_of_lt (Heap.lt_size e)) (hk b o e)) le (show ObjOk X.prog X.w _ h2 _ (.lst xs.reverse) from ⟨by rw [List.length_reverse]; exact hz, acc.toList, c2, hacc2, by rw [Array.toArray_toList]; exact gD⟩), rfl, q _ (I1.hok.fresh le)⟩
theorem fj_listRev {en : Enc X.K α} {m : Res (List α)} (h1 : X.mg "list" = none) (h2 : X.mg "reversed" = none) (h : LJ X Z sp a m en) (hc : X.calm = true := by rfl) (g1 : Gl X "list" := by rfl) (g2 : Gl X "reversed" := by rfl) (hn : nst a = true := by rfl) :
    FJ X Z sp (.Call (.Name "list" p) [.Call (.Name "reversed" p2) [a] [] pos2] [] pos) (m.bi fun xs => .ok xs.reverse) en := fun F ad σ H Q S hq => by
  refine ofE (pe_listRev hc g1 h1 g2 h2 pe_w (star_cons hn) (star_cons rfl)) ?_
  refine h F ad σ H _ S (hq.bi.imp fun xs q F1 H1 y vs n1 l1 hz1 r1 => ?_)
  refine ⟨y, vs, rfl, l1, fun l hl => ?_⟩
  obtain ⟨f1, f2⟩ := n1.free hl
  exact q F1 _ l vs.reverse (n1.new hl) f1 f2 upd_same (by rw [List.length_reverse]; exact hz1) r1.reverse
theorem fj_listRev_p {en : Enc X.K α} {xs : List α} (h1 : X.mg "list" = none) (h2 : X.mg "reversed" = none) (h : LJ X Z sp a (.ok xs) en) (hc : X.calm = true := by rfl) (g1 : Gl X "list" := by rfl) (g2 : Gl X "reversed" := by rfl) (hn : nst a = true := by rfl) :
    FJ X Z sp (.Call (.Name "list" p) [.Call (.Name "reversed" p2) [a] [] pos2] [] pos) (.ok xs.reverse) en := fj_listRev h1 h2 h hc g1 g2 hn
/-- how many values a row has -/
def VsN {K : Frag} {γ : Type} (r : VsE K γ) (n : Nat) : Prop := ∀ F vs g, r.rep F vs g → vs.length = n
theorem vsn1 {K : Frag} {en : Enc K α} : VsN (vs1 en) 1 := fun F vs g ⟨v, h, _⟩ => by rw [h]; rfl
theorem vsnC {K : Frag} {γ : Type} {en : Enc K α} {r : VsE K γ} {n : Nat} (h : VsN r n) : VsN (vsC en r) (n + 1) := fun F vs g ⟨v, ws, e, _, h2⟩ => by rw [e, List.length_cons, h F ws g.2 h2]
theorem ej_lenT {γ : Type} {r : VsE X.K γ} {n : Nat} {z : Int} {m : Res γ} (hv : VsN r n) (hz : z = n) (hm : X.mg "len" = none) (h : EJ X Z sp a m (eT r)) (hg : Gl X "len" := by rfl) (hn : nst a = true := by rfl) : EJ X Z sp (.Call (.Name "len" p) [a] [] pos) (m.bi fun _ => .ok z) eI := fun F ad σ H Q S hq => by
  refine ofE (callB1 call_len_seq hg hm boot_len hn) ?_
  refine h F ad σ H _ S (hq.bi.imp fun g q F1 H1 v n1 r1 => ?_)
  obtain ⟨y, vs, rfl, h1, r1⟩ := r1
  refine ⟨y, vs, rfl, .inr (SqT.of (n1.fh _ _ h1)), ?_⟩
  rw [hv _ _ _ r1, ← hz]
  exact q F1 H1 _ n1 rfl
theorem ej_lenT_p {γ : Type} {r : VsE X.K γ} {n : Nat} {z : Int} {g : γ} (hv : VsN r n) (hz : z = n) (hm : X.mg "len" = none) (h : EJ X Z sp a (.ok g) (eT r)) (hg : Gl X "len" := by rfl) (hn : nst a = true := by rfl) : EJ X Z sp (.Call (.Name "len" p) [a] [] pos) (.ok z) eI := ej_lenT hv hz hm h hg hn
theorem ej_tcut3 {β γ δ : Type} {e1 : Enc X.K α} {e2 : Enc X.K β} {e3 : Enc X.K γ} {e4 : Enc X.K δ} {m : Res (α × β × γ × δ)} {j : Nat} {p3 : Pos} (h : EJ X Z sp a m (eT (vsC e1 (vsC e2 (vsC e3 (vs1 e4)))))) :
    EJ X Z sp (.Subscript a (.Slice none (some (.Constant (.int 3) j p3)) none p2) pos) (m.bi fun g => .ok (g.1, g.2.1, g.2.2.1)) (eT (vsC e1 (vsC e2 (vs1 e3)))) := fun F ad σ H Q S hq => by
  obtain ⟨tl, pl, hl⟩ : OJ X Z sp none (.ok none) := oj_none
  obtain ⟨th, ph, hh⟩ : OJ X Z sp (some (.Constant (.int 3) j p3)) (.ok (some 3)) := oj_some_p ej_int
  refine ofE (pe_slice sl_tup pe_w pl ph) ?_
  refine h F ad σ H _ S (hq.bi.imp fun g q F1 H1 v n1 r1 => ?_)
  obtain ⟨y, vs, rfl, h1, v1, w1, rfl, a1, v2, w2, rfl, a2, v3, w3, rfl, a3, v4, rfl, a4⟩ := r1
  refine hl F1 ad σ H1 _ (S.nx n1) fun F2 H2 n2 => ?_
  refine hh F2 ad σ H2 _ (S.nx (n1.trans n2)) fun F3 H3 n3 => ?_
  have n := (n1.trans n2).trans n3
  have f := (n2.trans n3).ff
  refine ⟨y, _, rfl, SqT.of ((n2.trans n3).hh _ _ (n1.fh _ _ h1)), (show ¬ (HT.sIx 4 0 none = 0 ∧ HT.sIx 4 4 (some 3) = 4) by decide), fun l hl => ?_⟩
  obtain ⟨g1, g2⟩ := n.free hl
  have s : Same F1 (upd F3 l (.tup [v1, v2, v3])) := f.trans (same_upd g2)
  exact q (upd F3 l (.tup [v1, v2, v3])) _ (.ref l) ((n.new hl).fix g1 g2 upd_same) ⟨l, _, rfl, upd_same, v1, _, rfl, e1.mono s a1, v2, _, rfl, e2.mono s a2, v3, rfl, e3.mono s a3⟩
theorem ej_tcut3_p {β γ δ : Type} {e1 : Enc X.K α} {e2 : Enc X.K β} {e3 : Enc X.K γ} {e4 : Enc X.K δ} {g : α × β × γ × δ} {j : Nat} {p3 : Pos} (h : EJ X Z sp a (.ok g) (eT (vsC e1 (vsC e2 (vsC e3 (vs1 e4)))))) :
    EJ X Z sp (.Subscript a (.Slice none (some (.Constant (.int 3) j p3)) none p2) pos) (.ok (g.1, g.2.1, g.2.2.1)) (eT (vsC e1 (vsC e2 (vs1 e3)))) := ej_tcut3 h
/-! ### is, of truths -/
theorem cj_isB {b : Expr} {ma mb : Res Bool} (ha : EJ X Z sp a ma eB) (hb : EJ X Z sp b mb eB) : CJ X Z sp .Is a b (ma.bi fun x => mb.bi fun y => .ok (decide (x = y))) := ⟨_, op_isBl, fun F ad σ H Q S hm => by
  refine ha F ad σ H _ S (hm.bi.imp fun x q F1 H1 v n1 r1 => ?_)
  refine hb F1 ad σ H1 _ (S.nx n1) (q.bi.imp fun y q F2 H2 u n2 r2 => ⟨x, y, r1, r2, q F2 H2 (n1.trans n2)⟩)⟩
theorem cj_notB {b : Expr} {ma mb : Res Bool} (ha : EJ X Z sp a ma eB) (hb : EJ X Z sp b mb eB) : CJ X Z sp .IsNot a b (ma.bi fun x => mb.bi fun y => .ok (!decide (x = y))) := ⟨_, op_notBl, fun F ad σ H Q S hm => by
  refine ha F ad σ H _ S (hm.bi.imp fun x q F1 H1 v n1 r1 => ?_)
  refine hb F1 ad σ H1 _ (S.nx n1) (q.bi.imp fun y q F2 H2 u n2 r2 => ⟨x, y, r1, r2, q F2 H2 (n1.trans n2)⟩)⟩
theorem cj_isB_p {b : Expr} {x y : Bool} (ha : EJ X Z sp a (.ok x) eB) (hb : EJ X Z sp b (.ok y) eB) : CJ X Z sp .Is a b (.ok (decide (x = y))) := cj_isB ha hb
theorem cj_notB_p {b : Expr} {x y : Bool} (ha : EJ X Z sp a (.ok x) eB) (hb : EJ X Z sp b (.ok y) eB) : CJ X Z sp .IsNot a b (.ok (!decide (x = y))) := cj_notB ha hb
end
end Wk

set_option Elab.async false
set_option linter.all false
set_option maxRecDepth 100000
set_option maxHeartbeats 4000000
namespace Wk
open PySem PySem.Spec PyProof.Rows L2
/-! ### set(x) of a list of whole numbers -/
section
variable {prog : Program} {w : World} {A : Around} {E : Value → Shared → Prop} {s : Shared}
abbrev so0 (w : World) : Obj := { cls := .type "set", dict := none, data := .set #[] 0 (.fresh 0 0 (!w.params.followText "set-order")) }
abbrev lit0 (l : Addr) : Obj := { cls := .type "list_iterator", data := .fields #[.ref l, .int 0 0] }
theorem wk_setList {l : Addr} {its : Array Value} (ns : List Int) {Q : Value → Shared → Prop} (hd : A.handled = none) (hx : s.heap.IsList l its) (hi : IntsAre its.toList ns) (hb : ns.length + 1 < scanBound)
    (hQ : ∀ (h2 : Heap) (tk n : Nat), SetR w h2 s.heap.objs.size (fun j => decide (j ∈ ns)) n → n ≤ ns.length → (∀ b o, s.heap.get? b = some o → h2.get? b = some o) → Q (.ref s.heap.objs.size) { s with heap := h2, toks := tk }) : wpAny (model prog w) A (call (.type "set") [.ref l]) Q E s := by
  have hz : its.size = ns.length := (Array.length_toList (xs := its)) ▸ IntsAre.length hi
  obtain ⟨k0, t0, hmro⟩ := F.called_set.mro
  have hmade := F.called_set.made; have hsub := F.called_set.sub
  refine wpAny_call (codeAny_of_tree ?_)
  show wpAny _ _ (callAny (.type "set") _) _ _ s
  refine wpAny_pure ⟨Code.quiet_builtin _ (by decide +kernel), codeAny_builtin F.entry_type_call ?_⟩; rw [Around.under_plain (weight_type_call_type "set" [.ref l] []) rfl]
  have n1 := F.called_set.notType; have n2 := F.called_set.canCreate
  have n3 := F.typeCall_set_1 (.ref l)
  repeat (any_goals (first | assumption | wp_step))
  refine codeAny_mono (code_set_led1 (.ref l) (E := E) (Q₁ := fun u z => u = .ref s.heap.objs.size ∧ z = { s with heap := s.heap.push (so0 w) }) ⟨rfl, rfl⟩) fun r z hr => ?_
  match r, hr with
  | .error e, hr => exact hr
  | .ok (.ret u), hr =>
    obtain ⟨rfl, rfl⟩ := hr
    have gD : (s.heap.push (so0 w)).get? s.heap.objs.size = some (so0 w) := Heap.get?_push_size _ rfl
    have hT : Shared.TypeIs { s with heap := s.heap.push (so0 w) } (.ref s.heap.objs.size) "set" := ⟨_, gD, rfl⟩
    have n4 := F.called_set.init.lookup; have n5 := F.called_set.init.bind (.ref s.heap.objs.size)
    repeat (any_goals (first | assumption | wp_step))
    refine codeAny_mono (codeAny_call_builtin (R := wants (fun u z => u = .none ∧ ∃ h2 tk n, z = { s with heap := h2, toks := tk } ∧ SetR w h2 s.heap.objs.size (fun j => decide (j ∈ ns)) n ∧ n ≤ ns.length ∧ ∀ b o, s.heap.get? b = some o → h2.get? b = some o) E) F.called_set.init.plain F.entry_set_init (check_set_init_1 hT ?_)) fun r2 z2 hr2 => ?_
    · obtain ⟨⟨oc, od, ot, os⟩, hol, hcl, nl, hdl⟩ := hx
      simp only at hcl hdl
      subst hcl; subst hdl
      have hol2 : (s.heap.push (so0 w)).get? l = some { cls := .type "list", dict := od, data := .seq its nl, slots := os } := Heap.get?_push_of_some _ hol
      have m1 := F.sub_list_set; have m2 := F.sub_list_frozenset
      have m3 : (Value.type "list" == Value.type "dict") = false := by decide
      have hl1 : (s.heap.push (so0 w)).IsList l its := ⟨_, hol2, rfl, nl, rfl⟩
      unfold Builtin.«set.__init__» noKeywords Builtin.Frozenset.updateFrom
      generalize hPI : pyIter = PI
      wp_walk
      subst hPI
      refine wpAny_pyIter_list hl1 ?_; refine wpAny_bind (wpAny_runValue ?_)
      have ll : l < s.heap.objs.size := Heap.lt_size hol
      have hd3 : A.in1.in1.in1.handled = none := by simp [hd]
      have zz : (s.heap.push (so0 w)).objs.size = s.heap.objs.size + 1 := Heap.size_push ..
      have hlI : l ≠ (s.heap.push (so0 w)).objs.size := by rw [zz]; exact Nat.ne_of_lt (Nat.lt_succ_of_lt ll)
      have hDf : s.heap.objs.size ∉ [(s.heap.push (so0 w)).objs.size, l] := fun m => by
        rcases List.mem_cons.mp m with e | m
        · rw [zz] at e; exact Nat.ne_of_lt (Nat.lt_succ_self _) e
        · exact Nat.ne_of_gt ll (List.mem_singleton.mp m)
      have hval : ∀ (i : Nat) (v : Value), its[i]? = some v → ∃ k t, ns[i]? = some k ∧ v = .int k t := fun i v hv => by
        have hi2 : i < ns.length := by rw [← hz]; exact (Array.getElem?_eq_some_iff.mp hv).1
        obtain ⟨t, e⟩ := IntsAre.int_at hi i v (by rw [Array.getElem?_toList]; exact hv)
        rw [List.getD_eq_getElem?_getD, List.getElem?_eq_getElem hi2] at e
        exact ⟨ns[i], t, List.getElem?_eq_getElem hi2, e⟩
      refine set_update_ints ((Walks.list hd3 _ l hlI its).toS) s.heap.objs.size hDf ns hz hb hval (its.size - 0) 0 _ (by omega) (Nat.zero_le _) ⟨⟨_, Heap.get?_push_size _ rfl, rfl, rfl⟩, (hl1.push _)⟩ ?_ ?_
      · have g2 : ((s.heap.push (so0 w)).push (lit0 l)).get? s.heap.objs.size = some (so0 w) := Heap.get?_push_of_some _ gD
        exact ⟨0, Nat.le_refl 0, setR_new_at g2⟩
      · rintro ⟨h2, g2, d2, tk, os2⟩ n hm hn hR
        have eg : g2 = s.gens := hm.gens
        have ed : d2 = s.drawn := hm.drawn
        have eo : os2 = s.os := hm.os
        subst eg ed eo
        show wpAny _ _ _ _ _ _
        refine wpAny_pure ?_
        show wpAny _ _ (ret Value.none) _ _ _
        rw [hz] at hn
        refine wpAny_pure ⟨rfl, h2, tk, n, rfl, hR, hn, fun b o e => hm.heap b o (fun m => ?_) (Heap.get?_push_of_some _ (Heap.get?_push_of_some _ e))⟩
        have lb := Heap.lt_size e
        rcases List.mem_cons.mp m with e2 | m
        · exact Nat.ne_of_lt lb e2
        · have e3 := List.mem_singleton.mp m
          rw [zz] at e3
          exact Nat.ne_of_lt (Nat.lt_succ_of_lt lb) e3
    · match r2, hr2 with
      | .error e, hr2 => exact hr2
      | .ok (.ret u), hr2 =>
        obtain ⟨rfl, h2, tk, n, rfl, hR, hn, hk⟩ := hr2
        repeat (any_goals (first | assumption | wp_step))
        exact hQ _ _ _ hR hn hk
end
/-! ### sorted(set(x)) -/
section
variable {X : Cx} {Z : Fz} {sp : Spec X.K} {a : Expr} {p p2 pos pos2 : Pos} {e : Expr}
/-- the numbers of a list once each, rising -/
def insS (x : Int) : List Int → List Int
  | [] => [x]
  | y :: l => if x < y then x :: y :: l else if x = y then y :: l else y :: insS x l
def setS (xs : List Int) : List Int := xs.foldr insS []
theorem mem_insS {x k : Int} : ∀ {l : List Int}, k ∈ insS x l ↔ k = x ∨ k ∈ l
  | [] => by simp [insS]
  | y :: l => by
    unfold insS
    split
    · simp
    · split
      · rename_i h
        rw [h]
        simp
      · rw [List.mem_cons, mem_insS (l := l), List.mem_cons]
        constructor
        · rintro (h | h | h)
          · exact .inr (.inl h)
          · exact .inl h
          · exact .inr (.inr h)
        · rintro (h | h | h)
          · exact .inr (.inl h)
          · exact .inl h
          · exact .inr (.inr h)
theorem insS_rise {x : Int} : ∀ {l : List Int}, l.Pairwise (· < ·) → (insS x l).Pairwise (· < ·)
  | [], _ => List.pairwise_singleton _ _
  | y :: l, h => by
    obtain ⟨h1, h2⟩ := List.pairwise_cons.mp h
    unfold insS
    split
    · refine List.pairwise_cons.mpr ⟨fun k hk => ?_, h⟩
      rcases List.mem_cons.mp hk with e | e
      · omega
      · have := h1 k e
        omega
    · split
      · exact h
      · refine List.pairwise_cons.mpr ⟨fun k hk => ?_, insS_rise h2⟩
        rcases mem_insS.mp hk with e | e
        · omega
        · exact h1 k e
theorem mem_setS {k : Int} : ∀ {xs : List Int}, k ∈ setS xs ↔ k ∈ xs
  | [] => Iff.rfl
  | x :: xs => by
    show k ∈ insS x (setS xs) ↔ _
    rw [mem_insS, mem_setS (xs := xs), List.mem_cons]
theorem setS_rise : ∀ xs : List Int, (setS xs).Pairwise (· < ·)
  | [] => List.Pairwise.nil
  | x :: xs => insS_rise (setS_rise xs)
theorem rise_uniq : ∀ {l m : List Int}, l.Pairwise (· < ·) → m.Pairwise (· < ·) → (∀ k : Int, k ∈ l ↔ k ∈ m) → l = m
  | [], [], _, _, _ => rfl
  | [], y :: m, _, _, h => absurd ((h y).mpr (List.mem_cons_self ..)) (by simp)
  | x :: l, [], _, _, h => absurd ((h x).mp (List.mem_cons_self ..)) (by simp)
  | x :: l, y :: m, hl, hm, h => by
    obtain ⟨l1, l2⟩ := List.pairwise_cons.mp hl
    obtain ⟨m1, m2⟩ := List.pairwise_cons.mp hm
    have e : x = y := by
      rcases List.mem_cons.mp ((h x).mp (List.mem_cons_self ..)) with e | e
      · exact e
      · rcases List.mem_cons.mp ((h y).mpr (List.mem_cons_self ..)) with e2 | e2
        · exact e2.symm
        · have := m1 x e
          have := l1 y e2
          omega
    subst e
    rw [rise_uniq l2 m2 fun k => ⟨fun hk => ?_, fun hk => ?_⟩]
    · rcases List.mem_cons.mp ((h k).mp (List.mem_cons_of_mem _ hk)) with e | e
      · have := l1 k hk
        omega
      · exact e
    · rcases List.mem_cons.mp ((h k).mpr (List.mem_cons_of_mem _ hk)) with e | e
      · have := m1 k hk
        omega
      · exact e
def setSortM (xs : List Int) : Res (List Int) := gd (xs.length < 63) (setS xs)
/-- a new list: the numbers once each, rising -/
def tSetSort (K : PySem.W.Frag) (te : TE) : TE := fun σ H Q => te σ H fun v H1 => ∃ (x : Addr) (ns : List Int), v = .ref x ∧ SqL K H1 x (ns.map V.int) ∧ ns.length < 63 ∧ ∀ (ms : List Int) q, ms.Pairwise (· < ·) → (∀ k : Int, k ∈ ms ↔ k ∈ ns) → H1 q = none → Q (.ref q) (upd H1 q (.lst (ms.map V.int)))
theorem pe_setSort {te : TE} (hc : X.calm = true) (g1 : Gl X "sorted") (m1 : X.mg "sorted" = none) (g2 : Gl X "set") (m2 : X.mg "set" = none) (he : PE X e te) (s1 : starEach [e] X.env = (false, eval e X.env) :: starEach [] X.env)
    (s2 : starEach [.Call (.Name "set" p2) [e] [] pos2] X.env = (false, eval (.Call (.Name "set" p2) [e] [] pos2) X.env) :: starEach [] X.env) : PE X (.Call (.Name "sorted" p) [.Call (.Name "set" p2) [e] [] pos2] [] pos) (tSetSort X.K te) := by
  refine ⟨fun pins s σ H Q I h => ?_⟩
  refine Call_ (ld_blt I g1 m1 boot_sorted ?_)
  refine PyProof.Rows.callWith_builtin1 (PyProof.Rows.args_cons ?_ s2) s2 rfl
  refine Call_ (ld_blt I g2 m2 boot_set ?_)
  refine PyProof.Rows.callWith_type1 (PyProof.Rows.args_cons (thn (he.run pins s σ H _ I h) fun u z ⟨v, H1, I1, r1, q1⟩ => PyProof.Rows.args_nil ?_) s1) s1 rfl
  obtain ⟨x, ns, ev, hq, hl, q⟩ := q1
  subst ev
  have hu : u = Value.ref x := r1
  subst hu
  obtain ⟨its, rv, pl, hz⟩ := I1.list hq
  refine wk_setList (s := z) ns (I1.ok.hd hc) pl.isList (by simpa using RZ.intsAre_vals rv) (by unfold scanBound; omega) fun h2 tk n hR hn hk => ?_
  refine PyProof.Rows.args_nil ?_
  refine sorted_set (s := { z with heap := h2, toks := tk }) hR (I1.ok.hd hc) (by omega) fun z2 q2 out c ms k2 gg oo hp hg hi hs hm hlen => ?_
  have hlen2 : (ms.map V.int).length ≤ sizeLine := by rw [List.length_map, hlen, sizeLine_eq]; omega
  have kall : ∀ b o, z.heap.get? b = some o → z2.heap.get? b = some o := fun b o e => k2 b o (hk b o e)
  have hpz : z.heap.objs.size ≤ q2 := by
    refine Nat.le_trans ?_ hp
    exact Nat.le_of_lt_succ (Nat.lt_succ_of_lt hR.lt)
  have hn2 : H1 q2 = none := I1.hok.fresh hpz
  have J : Inv X pins σ (upd H1 q2 (.lst (ms.map V.int))) { z with heap := z2.heap, gens := z2.gens, drawn := z2.drawn, toks := z2.toks } :=
    I1.call (ch := []) (Un.laid kall hpz hn2) (I1.hok.laid kall hpz ⟨hlen2, out.toList, c, vals_of_ints hi, hg⟩) (by rw [gg]; exact I1.bare) (fun _ m => nomatch m)
  have e2 : z2 = { z with heap := z2.heap, gens := z2.gens, drawn := z2.drawn, toks := z2.toks } := by
    obtain ⟨_, _, _, _, _⟩ := z2
    obtain ⟨_, _, _, _, _⟩ := z
    cases oo
    rfl
  rw [e2]
  exact ⟨.ref q2, _, J, rfl, q ms q2 hs (fun k => (hm k).trans decide_eq_true_iff) hn2⟩
theorem fj_sortSet {m : Res (List Int)} (h1 : X.mg "sorted" = none) (h2 : X.mg "set" = none) (h : LJ X Z sp a m eI) (hc : X.calm = true := by rfl) (g1 : Gl X "sorted" := by rfl) (g2 : Gl X "set" := by rfl) (hn : nst a = true := by rfl) :
    FJ X Z sp (.Call (.Name "sorted" p) [.Call (.Name "set" p2) [a] [] pos2] [] pos) (m.bi setSortM) eI := fun F ad σ H Q S hq => by
  refine ofE (pe_setSort hc g1 h1 g2 h2 pe_w (star_cons hn) (star_cons rfl)) ?_
  refine h F ad σ H _ S (hq.bi.imp fun xs q F1 H1 y vs n1 l1 hz1 r1 => ?_)
  obtain ⟨c, q⟩ := q.gd
  have ev := r1.int
  subst ev
  refine ⟨y, xs, rfl, l1, c, fun ms l hs hm hl => ?_⟩
  have es : ms = setS xs := rise_uniq hs (setS_rise xs) fun k => (hm k).trans mem_setS.symm
  subst es
  obtain ⟨f1, f2⟩ := n1.free hl
  refine q F1 _ l _ (n1.new hl) f1 f2 upd_same ?_ (Reps.ofInt _)
  have hle : ∀ ys : List Int, (setS ys).length ≤ ys.length := fun ys => by
    have hi : ∀ (x : Int) (l : List Int), (insS x l).length ≤ l.length + 1 := fun x l => by
      induction l with
      | nil => exact Nat.le_refl _
      | cons y l ih =>
        unfold insS
        split
        · exact Nat.le_refl _
        · split
          · exact Nat.le_succ _
          · exact Nat.succ_le_succ ih
    induction ys with
    | nil => exact Nat.le_refl _
    | cons y ys ih => exact Nat.le_trans (hi y _) (Nat.succ_le_succ ih)
  have := hle xs
  rw [List.length_map, sizeLine_eq]
  omega
theorem fj_sortSet_p {xs : List Int} (h1 : X.mg "sorted" = none) (h2 : X.mg "set" = none) (h : LJ X Z sp a (.ok xs) eI) (hc : X.calm = true := by rfl) (g1 : Gl X "sorted" := by rfl) (g2 : Gl X "set" := by rfl) (hn : nst a = true := by rfl) :
    FJ X Z sp (.Call (.Name "sorted" p) [.Call (.Name "set" p2) [a] [] pos2] [] pos) (setSortM xs) eI := fj_sortSet h1 h2 h hc g1 g2 hn
end
end Wk

set_option Elab.async false
set_option linter.all false
set_option maxRecDepth 100000
set_option maxHeartbeats 4000000
namespace Wk
open PySem PySem.Spec PyProof.Rows L2
/-! ### comprehensions over a list of ours -/
section
variable {X : Cx} {Z : Fz} {sp : Spec X.K} {a b c e : Expr} {es : List Expr} {pos p p2 fp : Pos} {α β γ ρ : Type} {k j : Nat} {x : Str} {F F' H H' : Hp} {ad : List Addr} {σ : Sg}
variable {elt tg iter : Expr} {scope : Scope} {own : List (Str × Nat)}
/-- what is walked while nothing that there is changes -/
def SJO (X : Cx) (Z : Fz) (sp : Spec X.K) (tg it : Expr) (m : Res (List β)) (en : Enc X.K β) : Prop :=
  ∀ (F : Hp) (ad : List Addr) (σ : Sg) (H : Hp) (R : It → Hp → Prop), SOk Z F ad sp σ H → mwp m (fun ys => ∀ F1 H1 J, Nx F H F1 H1 → ys.length ≤ sizeLine → ItR X.K H1 F1 en ys J → R J H1) Z.Er → wI X tg it σ H R
theorem sjo_list {it : Expr} {en : Enc X.K α} {m : Res (List α)} (h : LJ X Z sp it m en) : SJO X Z sp tg it m en := fun F ad σ H R S hm => by
  refine ofI (pi_list pe_w) ?_
  refine h F ad σ H _ S (hm.imp fun xs q F1 H1 p vs n1 h1 hz r1 => ?_)
  refine ⟨p, rfl, ⟨vs, h1⟩, q F1 H1 _ n1 (by rw [← r1.length]; exact hz) fun i F' H' s f g => ?_⟩
  have hq := sqL_mono g h1
  refine ⟨fun y hy => ?_, fun hl => ⟨vs, hq, by rw [r1.length]; exact hl⟩⟩
  obtain ⟨v, k1, k2⟩ := r1.get hy
  refine ⟨⟨vs, v, hq, k1⟩, fun x H'' yl => ?_⟩
  obtain ⟨rfl, k3⟩ := yl
  have e : v = x := Option.some.inj (k1.symm.trans (k3 vs hq))
  subst e
  exact ⟨F', ⟨Same.refl _, Same.refl _, f, fun _ h => .inl h⟩, en.mono s k2⟩
theorem lc_okO {en : Enc X.K β} {en' : Enc X.K α} {m : Res (List β)} {is : List Nat} {bd : β → List (Sl X.K) → List (Sl X.K)} {cm : β → Res Bool} {me : β → Res α} {tt : TT} (hs : SJO X Z sp tg iter m en)
    (hg : ∀ s H C cl fp, GJ (blkX X scope s H C cl fp) tg en is bd) (hi : ∀ i ∈ is, i ∈ own.map (·.2))
    (hc : ∀ y F ad σ H (Q : Bool → Hp → Prop), SOk Z.mute F ad (blkS sp own bd y) σ H → mwp (cm y) (fun b => ∀ F' H', Nx F H F' H' → Q b H') (fun _ => False) → tt σ H Q)
    (he : ∀ y s H C cl fp, EJ (blkX X scope s H C cl fp) Z.mute (blkS sp own bd y) elt (me y) en')
    (F : Hp) (ad : List Addr) (σ : Sg) (H : Hp) (Q : VK) (S : SOk Z F ad sp σ H) (hm : mwp (m.bi fun ys => compM ys cm me) (fun xs => ∀ F' H' p vs, Nx F H F' H' → H p = none → F' p = none → H' p = some (.lst vs) → vs.length ≤ sizeLine → Reps en' F' vs xs → Q (.ref p) H') Z.Er) :
    tLc (wI X tg iter) (gAll X scope tg) tt (eAll X scope elt) (own.map (·.2)) σ H Q := by
  refine hs F ad σ H _ S (hm.bi.imp fun ys q F1 H1 J n1 hz itr => fun D hD => ?_)
  obtain ⟨g1, g2⟩ := n1.free hD
  refine ⟨fun i m Hc => m = ys.length - i ∧ i ≤ ys.length ∧ ∃ F' acc zs, F' D = none ∧ Hc D = some (.lst acc) ∧ acc.length ≤ i ∧ Reps en' F' acc zs ∧ Nx F1 H1 F' Hc ∧
    mwp (compM (ys.drop i) cm me) (fun rest => ∀ F' H' p vs, Nx F H F' H' → H p = none → F' p = none → H' p = some (.lst vs) → vs.length ≤ sizeLine → Reps en' F' vs (zs ++ rest) → Q (.ref p) H') Z.Er, ?_, ?_⟩
  · exact ⟨_, rfl, Nat.zero_le _, F1, [], [], g2, upd_same, Nat.le_refl _, .nil, (Nx.new ⟨Same.refl _, Same.refl _, n1.fh, fun _ h => .inl h⟩ hD), q⟩
  · rintro i m Hc ⟨rfl, hil, F', acc, zs, hF, hH, hal, hr, nn, q⟩
    have gh := nn.hh
    obtain ⟨t1, t2⟩ := itr i F' Hc nn.ff nn.fh gh
    by_cases hlt : i < ys.length
    · have hy : ys[i]? = some ys[i] := List.getElem?_eq_getElem hlt
      obtain ⟨go, yl⟩ := t1 _ hy
      rw [List.drop_eq_getElem_cons hlt] at q
      refine .inr ⟨go, fun Hd => ∃ F' acc zs, F' D = none ∧ Hd D = some (.lst acc) ∧ acc.length ≤ i + 1 ∧ Reps en' F' acc zs ∧ Nx F1 H1 F' Hd ∧
        mwp (compM (ys.drop (i + 1)) cm me) (fun rest => ∀ F' H' p vs, Nx F H F' H' → H p = none → F' p = none → H' p = some (.lst vs) → vs.length ≤ sizeLine → Reps en' F' vs (zs ++ rest) → Q (.ref p) H') Z.Er, fun Hd h => ⟨ys.length - (i + 1), by omega, rfl, hlt, h⟩, fun x H'' hx => ?_⟩
      obtain ⟨F2, n2, rx⟩ := yl x H'' hx
      have nnn := nn.trans n2
      have hF2 := n2.non hF (by rw [hH]; exact fun z => nomatch z)
      have hH2 := n2.hh _ _ hH
      have S2 := ((S.nx (n1.trans nnn)).wipe (own.map (·.2))).er (Er := fun _ => False)
      intro s H0 C cl fp
      refine hg s H0 C cl fp _ F2 ad _ _ H'' x ys[i] _ S2 rx fun σ3 S3 k1 k2 => ⟨?_, ?_⟩
      · rw [wipe_eq (σ := L2.wipe σ (own.map (·.2))) k1 fun i hi' => k2 i fun z => hi' (hi i z)]
        refine List.ext_getElem? fun i => ?_
        rw [wipe_get, wipe_get, wipe_length]
        split <;> rfl
      · refine hc ys[i] F2 ad σ3 H'' _ S3 ((mwp.nx (mwp.bi q)).imp fun b q F3 H3 n3 => ?_)
        have hF3 := n3.non hF2 (by rw [hH2]; exact fun z => nomatch z)
        have hH3 := n3.hh _ _ hH2
        cases b with
        | false => exact ⟨F3, acc, zs, hF3, hH3, by omega, hr.mono (n2.trans n3).ff, nnn.trans n3, q⟩
        | true =>
          rw [if_pos rfl]
          rw [if_pos rfl] at q
          intro s H0 C cl fp
          refine he ys[i] s H0 C cl fp F3 ad σ3 H3 _ (S3.nx n3) ((mwp.nx (mwp.bi q)).imp fun z q F4 H4 v n4 rv => ?_)
          have hF4 := n4.non hF3 (by rw [hH3]; exact fun z => nomatch z)
          have hH4 := n4.hh _ _ hH3
          have nf := (nnn.trans n3).trans n4
          refine ⟨acc, hH4, Nat.lt_of_le_of_lt hal (Nat.lt_of_lt_of_le hlt hz), F4, acc ++ [v], zs ++ [z], hF4, upd_same, by rw [List.length_append, List.length_singleton]; omega, (hr.mono ((n2.trans n3).trans n4).ff).snoc rv, ?_, ?_⟩
          · refine ⟨nf.ff, fun b o h => ?_, fun b o h => ?_, nf.nw⟩
            · rw [upd_ne (ne_of_none h hD)]
              exact nf.hh b o h
            · rw [upd_ne (ne_of_none h hF4)]
              exact nf.fh b o h
          · refine (mwp.bi q).imp fun rest q F' H' p vs n h1 h2 h3 hz' h4 => q F' H' p vs n h1 h2 h3 hz' ?_
            rw [List.append_assoc] at h4
            exact h4
    · have e : i = ys.length := by omega
      subst e
      rw [List.drop_length] at q
      have q : ∀ F' H' p vs, Nx F H F' H' → H p = none → F' p = none → H' p = some (.lst vs) → vs.length ≤ sizeLine → Reps en' F' vs (zs ++ []) → Q (.ref p) H' := q
      rw [List.append_nil] at q
      exact .inl ⟨t2 (Nat.le_refl _), q F' Hc D acc (n1.trans nn) g1 hF hH (Nat.le_trans hal hz) hr⟩
theorem fj_lcO {en : Enc X.K β} {en' : Enc X.K α} {m : Res (List β)} {is : List Nat} {bd : β → List (Sl X.K) → List (Sl X.K)} {me : β → Res α} (am : Amb X Z k) (ok : BlkOk X.N X.env.scope scope own) (hs : SJO X Z sp tg iter m en)
    (hg : ∀ s H C cl fp, GJ (blkX X scope s H C cl fp) tg en is bd) (he : ∀ y s H C cl fp, EJ (blkX X scope s H C cl fp) Z.mute (blkS sp own bd y) elt (me y) en') (hi : ∀ i ∈ is, i ∈ own.map (·.2) := by decide)
    (hf : ∀ x, foldedSetIterable iter X.env x = pure x := by intro _; rfl) : FJ X Z sp (.ListComp elt [⟨tg, iter, [], 0⟩] scope pos) (m.bi fun ys => mapMx ys me) en' := fun F ad σ H Q S hm => by
  refine ofE (pe_lc am.calm am.nd pi_w ok pgAll (fun _ _ _ _ _ => pts_nil) peAll hf) ?_
  refine lc_okO (cm := fun _ => .ok true) hs hg hi (fun y F ad σ H Q S h => h F H S.refl) he F ad σ H Q S ?_
  rw [show (fun ys => compM ys (fun _ => .ok true) me) = (fun ys => mapMx ys me) from funext fun ys => compM_map me ys]
  exact hm
theorem fj_lcO_p {en : Enc X.K β} {en' : Enc X.K α} {m : Res (List β)} {is : List Nat} {bd : β → List (Sl X.K) → List (Sl X.K)} {g : β → α} (am : Amb X Z k) (ok : BlkOk X.N X.env.scope scope own) (hs : SJO X Z sp tg iter m en)
    (hg : ∀ s H C cl fp, GJ (blkX X scope s H C cl fp) tg en is bd) (he : ∀ y s H C cl fp, EJ (blkX X scope s H C cl fp) Z.mute (blkS sp own bd y) elt (.ok (g y)) en') (hi : ∀ i ∈ is, i ∈ own.map (·.2) := by decide)
    (hf : ∀ x, foldedSetIterable iter X.env x = pure x := by intro _; rfl) : FJ X Z sp (.ListComp elt [⟨tg, iter, [], 0⟩] scope pos) (m.bi fun ys => .ok (ys.map g)) en' := fun F ad σ H Q S hm => by
  refine fj_lcO am ok hs hg he hi hf F ad σ H Q S ?_
  rw [show (fun ys => mapMx ys fun y => .ok (g y)) = (fun ys => .ok (ys.map g)) from funext fun ys => mapMx_ok g ys]
  exact hm
/-- [elt for tg in iter if c] -/
theorem fj_lcifO {en : Enc X.K β} {en' : Enc X.K α} {m : Res (List β)} {is : List Nat} {bd : β → List (Sl X.K) → List (Sl X.K)} {cm : β → Res Bool} {me : β → Res α} (am : Amb X Z k) (ok : BlkOk X.N X.env.scope scope own) (hs : SJO X Z sp tg iter m en)
    (hg : ∀ s H C cl fp, GJ (blkX X scope s H C cl fp) tg en is bd) (hc : ∀ y s H C cl fp, TJ (blkX X scope s H C cl fp) Z.mute (blkS sp own bd y) c (cm y)) (he : ∀ y s H C cl fp, EJ (blkX X scope s H C cl fp) Z.mute (blkS sp own bd y) elt (me y) en') (hi : ∀ i ∈ is, i ∈ own.map (·.2) := by decide)
    (hf : ∀ x, foldedSetIterable iter X.env x = pure x := by intro _; rfl) : FJ X Z sp (.ListComp elt [⟨tg, iter, [c], 0⟩] scope pos) (m.bi fun ys => compM ys cm me) en' := fun F ad σ H Q S hm => by
  refine ofE (pe_lc am.calm am.nd pi_w ok pgAll ptAll peAll hf) ?_
  exact lc_okO hs hg hi (fun y F ad σ H Q S h s H0 C cl fp => hc y s H0 C cl fp F ad σ H Q S h) he F ad σ H Q S hm
theorem fj_lcifO_p {en : Enc X.K β} {en' : Enc X.K α} {m : Res (List β)} {is : List Nat} {bd : β → List (Sl X.K) → List (Sl X.K)} {cb : β → Bool} {g : β → α} (am : Amb X Z k) (ok : BlkOk X.N X.env.scope scope own) (hs : SJO X Z sp tg iter m en)
    (hg : ∀ s H C cl fp, GJ (blkX X scope s H C cl fp) tg en is bd) (hc : ∀ y s H C cl fp, TJ (blkX X scope s H C cl fp) Z.mute (blkS sp own bd y) c (.ok (cb y))) (he : ∀ y s H C cl fp, EJ (blkX X scope s H C cl fp) Z.mute (blkS sp own bd y) elt (.ok (g y)) en') (hi : ∀ i ∈ is, i ∈ own.map (·.2) := by decide)
    (hf : ∀ x, foldedSetIterable iter X.env x = pure x := by intro _; rfl) : FJ X Z sp (.ListComp elt [⟨tg, iter, [c], 0⟩] scope pos) (m.bi fun ys => .ok ((ys.filter cb).map g)) en' := fun F ad σ H Q S hm => by
  refine fj_lcifO am ok hs hg hc he hi hf F ad σ H Q S ?_
  rw [show (fun ys => compM ys (fun y => .ok (cb y)) fun y => .ok (g y)) = (fun ys => .ok ((ys.filter cb).map g)) from funext fun ys => compM_ok cb g ys]
  exact hm
theorem fj_lcO_pp {en : Enc X.K β} {en' : Enc X.K α} {ys0 : List β} {is : List Nat} {bd : β → List (Sl X.K) → List (Sl X.K)} {g : β → α} (am : Amb X Z k) (ok : BlkOk X.N X.env.scope scope own) (hs : SJO X Z sp tg iter (.ok ys0) en)
    (hg : ∀ s H C cl fp, GJ (blkX X scope s H C cl fp) tg en is bd) (he : ∀ y s H C cl fp, EJ (blkX X scope s H C cl fp) Z.mute (blkS sp own bd y) elt (.ok (g y)) en') (hi : ∀ i ∈ is, i ∈ own.map (·.2) := by decide)
    (hf : ∀ x, foldedSetIterable iter X.env x = pure x := by intro _; rfl) : FJ X Z sp (.ListComp elt [⟨tg, iter, [], 0⟩] scope pos) (Res.ok (ys0.map g)) en' := fj_lcO_p am ok hs hg he hi hf
theorem fj_lcO_sp {en : Enc X.K β} {en' : Enc X.K α} {ys0 : List β} {is : List Nat} {bd : β → List (Sl X.K) → List (Sl X.K)} {me : β → Res α} (am : Amb X Z k) (ok : BlkOk X.N X.env.scope scope own) (hs : SJO X Z sp tg iter (.ok ys0) en)
    (hg : ∀ s H C cl fp, GJ (blkX X scope s H C cl fp) tg en is bd) (he : ∀ y s H C cl fp, EJ (blkX X scope s H C cl fp) Z.mute (blkS sp own bd y) elt (me y) en') (hi : ∀ i ∈ is, i ∈ own.map (·.2) := by decide)
    (hf : ∀ x, foldedSetIterable iter X.env x = pure x := by intro _; rfl) : FJ X Z sp (.ListComp elt [⟨tg, iter, [], 0⟩] scope pos) (mapMx ys0 me) en' := fj_lcO am ok hs hg he hi hf
theorem fj_lcifO_pp {en : Enc X.K β} {en' : Enc X.K α} {ys0 : List β} {is : List Nat} {bd : β → List (Sl X.K) → List (Sl X.K)} {cb : β → Bool} {g : β → α} (am : Amb X Z k) (ok : BlkOk X.N X.env.scope scope own) (hs : SJO X Z sp tg iter (.ok ys0) en)
    (hg : ∀ s H C cl fp, GJ (blkX X scope s H C cl fp) tg en is bd) (hc : ∀ y s H C cl fp, TJ (blkX X scope s H C cl fp) Z.mute (blkS sp own bd y) c (.ok (cb y))) (he : ∀ y s H C cl fp, EJ (blkX X scope s H C cl fp) Z.mute (blkS sp own bd y) elt (.ok (g y)) en') (hi : ∀ i ∈ is, i ∈ own.map (·.2) := by decide)
    (hf : ∀ x, foldedSetIterable iter X.env x = pure x := by intro _; rfl) : FJ X Z sp (.ListComp elt [⟨tg, iter, [c], 0⟩] scope pos) (Res.ok ((ys0.filter cb).map g)) en' := fj_lcifO_p am ok hs hg hc he hi hf
theorem fj_lcifO_sp {en : Enc X.K β} {en' : Enc X.K α} {ys0 : List β} {is : List Nat} {bd : β → List (Sl X.K) → List (Sl X.K)} {cm : β → Res Bool} {me : β → Res α} (am : Amb X Z k) (ok : BlkOk X.N X.env.scope scope own) (hs : SJO X Z sp tg iter (.ok ys0) en)
    (hg : ∀ s H C cl fp, GJ (blkX X scope s H C cl fp) tg en is bd) (hc : ∀ y s H C cl fp, TJ (blkX X scope s H C cl fp) Z.mute (blkS sp own bd y) c (cm y)) (he : ∀ y s H C cl fp, EJ (blkX X scope s H C cl fp) Z.mute (blkS sp own bd y) elt (me y) en') (hi : ∀ i ∈ is, i ∈ own.map (·.2) := by decide)
    (hf : ∀ x, foldedSetIterable iter X.env x = pure x := by intro _; rfl) : FJ X Z sp (.ListComp elt [⟨tg, iter, [c], 0⟩] scope pos) (compM ys0 cm me) en' := fj_lcifO am ok hs hg hc he hi hf
end
end Wk

set_option Elab.async false
set_option linter.all false
set_option maxRecDepth 100000
set_option maxHeartbeats 4000000
namespace Wk
open PySem PySem.Spec PyProof.Rows L2
/-! ### an exception that is kept -/
/-- an error of the class cls at a, without a dict of its own -/
def ExT (cls : Value) (a : Addr) : HO := .ext fun h => ∃ (oe : Obj) (vs : Array Value), h.get? a = some oe ∧ Zc cls none oe ∧ oe.data = .fields vs
theorem exT_ok {P : Program} {w : World} {H : Hp} {h : Heap} {a : Addr} {cls : Value} {oe : Obj} {vs : Array Value} (e : h.get? a = some oe) (z : Zc cls none oe) (d : oe.data = .fields vs) : ObjOk P w H h a (ExT cls a) :=
  ⟨⟨oe, vs, e, z, d⟩, ⟨oe, e⟩, fun _ _ ⟨o, v, q, r⟩ k => ⟨o, v, k o q, r⟩⟩
section
variable {X : Cx} {pins : List (Addr × Obj)} {σ : Sg} {H : Hp} {s : Shared}
/-- what is held becomes part of what is told -/
theorem Inv.track {a : Addr} {oe : Obj} {cls : Value} {vs : Array Value} (I : Inv X ((a, oe) :: pins) σ H s) (ok : X.Ok) (hz : Zc cls none oe) (hd : oe.data = .fields vs) (n0 : X.s_0.heap.get? a = none) (np : ∀ p ∈ X.pn ++ pins, p.1 ≠ a) : Inv X pins σ (upd H a (ExT cls a)) s := by
  obtain ⟨e1, e2, e3, e4, e5⟩ := I.pin (a, oe) (List.mem_append_right _ (List.mem_cons_self ..))
  have e1 : s.heap.get? a = some oe := e1
  have e2 : H a = none := e2
  have ne0 : ∀ b o, X.s_0.heap.get? b = some o → b ≠ a := fun b o e z => by
    rw [z, n0] at e
    cases e
  refine ⟨ok, I.os, I.bare, ⟨I.base.keep, I.base.slot, fun b o e n hx => ?_, I.base.there, fun b xs e => ?_, fun b o u e => ?_, fun b ps e => ?_⟩, I.loc, I.cell, ?_, fun x c hc => ?_, fun p hp => ?_, fun b u e => ?_, I.len⟩
  · rw [upd_ne (ne0 b o e)]
    exact I.base.free b o e n hx
  · have z := I.base.tups b xs e
    rw [upd_ne (ne_of_none z e2)]
    exact z
  · have z := I.base.frzs b o u e
    rw [upd_ne (ne_of_none z e2)]
    exact z
  · obtain ⟨m, z⟩ := I.base.tbls b ps e
    exact ⟨m, by rw [upd_ne (ne_of_none z e2)]; exact z⟩
  · rw [upd_ne (Ne.symm e3)]
    exact I.free
  · have ne : c ≠ a := fun z => by
      obtain ⟨v, o, ho, hv⟩ := I.cell x c hc
      rw [z, e1] at ho
      cases ho
      exact e5 v hv
    rw [upd_ne ne]
    exact I.freeC x c hc
  · obtain ⟨a1, a2, a3, a4, a5⟩ := I.pin p (by
      rcases List.mem_append.mp hp with h | h
      · exact List.mem_append_left _ h
      · exact List.mem_append_right _ (List.mem_cons_of_mem _ h))
    exact ⟨a1, by rw [upd_ne (np p hp)]; exact a2, a3, a4, a5⟩
  · by_cases hb : b = a
    · subst hb
      rw [upd_same] at e
      cases e
      exact exT_ok e1 hz hd
    · rw [upd_ne hb] at e
      exact (I.hok b u e).stay (fun c v _ q => q) (fun c q => by rw [upd_ne (ne_of_none q e2)]; exact q) fun c xs q => by rw [upd_ne (ne_of_none q e2)]; exact q
theorem Inv.unsuiteP {a : Addr} {q : Addr × Obj} {pn' : List (Addr × Obj)} (I : Inv (X.suite a (q :: (X.pn ++ pins))) pn' σ H s) (ok : X.Ok) : Inv X (q :: pins) σ H s :=
  ⟨ok, I.os, I.bare, I.base, I.loc, I.cell, I.free, I.freeC, fun p hp => I.pin p (by
    refine List.mem_append_left _ ?_
    rcases List.mem_append.mp hp with h | h
    · exact List.mem_cons_of_mem _ (List.mem_append_left _ h)
    · rcases List.mem_cons.mp h with h | h
      · rw [h]
        exact List.mem_cons_self ..
      · exact List.mem_cons_of_mem _ (List.mem_append_right _ h)), I.hok, I.len⟩
end
/-- 'except x as n', the error kept behind the suite -/
def wAsX (K : Frag) (c : Value) (i : Nat) (ts : Addr → Value → Option Addr → TS) (D : Ends) : WX := fun cls d σ H =>
  d = none ∧ PySem.W.exmOne K cls c = some true ∧ ∀ a, H a = none → ts a cls d { nx := fun σ' H' => D.nx (σ'.set i none) (upd H' a (ExT cls a)), rt := fun _ _ => False, bk := fun _ _ => False, ct := fun _ _ => False } (σ.set i (some (.ref a))) H
section
variable {X : Cx} {x n : Str} {c : Value} {i : Nat} {body suite : List Stmt} {b₀ : Stmt} {np pos pos' : Pos} {tb : WX → TS} {ts : Addr → Value → Option Addr → TS}
theorem ps_try_asX (hs : X.stack = X.env :: X.outer) (hf : X.env.frame = some X.env.locals) (hex : X.ex = []) (hN : X.N.Nodup) (hi : X.N[i]? = some n) (hln : X.env.kindOf n = some .local) (hc : Names X x c)
    (hb : ∀ (W : WX) (pn : List (Addr × Obj)) (xe : Value → Shared → Prop), Takes (X.tr pn xe) W → PassesOwn (model X.prog X.w) X.A X.env xe → PSs (X.tr pn xe) body (tb W))
    (hsu : ∀ (a : Addr) (oe : Obj) (cls : Value) (d : Option Addr) (pn : List (Addr × Obj)), Zc cls d oe → (∃ vs, oe.data = .fields vs) → PSs (X.suite a ((a, oe) :: pn)) (b₀ :: suite) (ts a cls d)) :
    PS X (.Try body [.ExceptHandler (some (.Name x np)) (some n) (b₀ :: suite) pos'] [] [] pos) (fun D σ H => tb (wAsX X.K c i ts D) D σ H) := by
  refine ⟨fun pins s σ H D I h => ?_⟩
  have ok := I.ok
  have hfr : X.A.frames = some (X.env :: X.outer) := by rw [ok.frames, hs]
  have hloc : Loc X.env.scope n := .inl hln
  refine wpAny_Try_except ?_
  refine wpAny_mono ((hb (wAsX X.K c i ts D) (X.pn ++ pins) (fun e s₁ => wpAny (model X.prog X.w) X.A (noteFrame e X.env) (fun _ s₂ => wpAny (model X.prog X.w) X.A (setFlight e none) (fun _ s₃ =>
    wpAny (model X.prog X.w) X.A (handleBy e X.env [.ExceptHandler (some (.Name x np)) (some n) (b₀ :: suite) pos']) (SP X pins D) X.xe s₃) X.xe s₂) X.xe s₁) (fun u s' xx => ?_) PassesOwn.looking).run [] s σ H D (I.toTry _) h) (fun f s1 hsp => ?_) (fun e s1 he => he)
  · -- the catch
    obtain ⟨a, B, sI, pins', σ', H', cls, d, rfl, J', nb, up, sky, na, os, ag, hd0, hb1, hyes⟩ := xx
    subst hd0
    have J : Inv X pins σ' H' sI := J'.ofTry ok
    have sky' : Sky B (X.env :: X.outer) a (Zc cls none) X.env.locals s'.heap := by rw [← hs]; exact sky
    show wpAny (model X.prog X.w) X.A (noteFrame (.ref a) X.env) _ _ _
    refine Sky.land Zc.steady hfr hf sky' fun h3 fl3 up3 => ?_
    have J3 : Inv X pins σ' H' { s' with heap := h3 } := J.landed nb fl3.1 (up.trans up3) os ag
    obtain ⟨oe3, vs3, he3, hz3, hd3⟩ := fl3.there
    have notFr : ∀ {h : Heap} {o : Obj} {vs : Array Value}, h.FunFrames B (X.env :: X.outer) → h.get? a = some o → o.data = .fields vs → a ∉ frs (X.env :: X.outer) := fun {h o vs} ff e dd hm => by
      obtain ⟨_, o', e', hnf⟩ := ff.mem hm
      rw [e] at e'; cases e'
      exact hnf _ dd
    have nfr := notFr fl3.2.2.1 he3 hd3
    have nL : a ≠ X.env.locals := fun z => nfr (List.mem_filterMap.mpr ⟨X.env, List.mem_cons_self, by rw [hf, z]⟩)
    have nF : a ∉ X.fs := fun hm => by
      obtain ⟨e, he, q⟩ := List.mem_filterMap.mp hm
      exact nfr (List.mem_filterMap.mpr ⟨e, List.mem_cons_of_mem _ he, q⟩)
    have nI : sI.heap.get? a = none := by
      cases q : sI.heap.get? a with
      | none => rfl
      | some o =>
        have z := nb a o q (by rw [hs]; exact nfr)
        rw [fl3.2.1] at z
        cases z
    have n0 : X.s_0.heap.get? a = none := by
      cases q : X.s_0.heap.get? a with
      | none => rfl
      | some o =>
        obtain ⟨o', z⟩ := J.base.there a o q (by rw [hex]; exact fun z => nomatch z)
        rw [nI] at z
        cases z
    have np' : ∀ p ∈ X.pn ++ pins, p.1 ≠ a := fun p hp z => by
      have q := (J.pin p hp).1
      rw [z, nI] at q
      cases q
    have S3 := J3.suite he3 hd3 na nL nF
    refine wpAny_handleBy_cons (codeAny_handlers_test ?_) (by intro q; cases q)
    have LT : PySem.W.Looks (model X.prog X.w) h3 (typeOf (.ref a)) cls := fun A Q E s k q => wpAny_typeOf_ref (k _ _ he3) (by rw [hz3.1]; exact q)
    have LM := PySem.W.exm_one (M := model X.prog X.w) (J3.kIn) LT hb1
    have test : ∀ {Q : Value → Shared → Prop} {E : Value → Shared → Prop}, Q c { s' with heap := h3 } → wpAny (model X.prog X.w) (X.A.mark (some (.ref a))) (eval (.Name x np) X.env) Q E { s' with heap := h3 } := fun {Q E} q => by
      obtain ⟨hg, hdbg, hm | ⟨hm, hv, hnn⟩⟩ := hc
      · exact ld_glob (X := X.suite a ((a, oe3) :: (X.pn ++ pins))) S3 hg hm q hdbg
      · exact ld_blt (X := X.suite a ((a, oe3) :: (X.pn ++ pins))) S3 hg hm hv q hnn hdbg
    refine test (LM.here ?_)
    refine codeAny_handlers_suite_as ?_
    refine HandSPX.lands_againZ fl3 fun h4 fl4 up4 => ?_
    have J4 : Inv X pins σ' H' { s' with heap := h4 } := J.landed nb fl4.1 ((up.trans up3).trans up4) os ag
    obtain ⟨oe4, vs4, he4, hz4, hd4⟩ := fl4.there
    have S4 := J4.suite he4 hd4 na nL nF
    refine store_ok (X := X.suite a ((a, oe4) :: (X.pn ++ pins))) (v := .ref a) S4 hN hi hloc rfl (fun s5 S5 => ?_) (.inr hln)
    refine wpAny_mono ((hsu a oe4 cls none (X.pn ++ pins) hz4 ⟨_, hd4⟩).run [] s5 _ H' _ S5 (hyes a na)) (fun f s6 hsp => ?_) (fun _ _ z => False.elim z)
    cases f with
    | next =>
      obtain ⟨σ6, H6, S6, q6⟩ := hsp
      exact gone_ok (Wk.Inv.unsuiteP S6 ok) hN hi hln fun s7 J7 => ⟨_, _, Inv.track J7 ok hz4 hd4 n0 np', q6⟩
    | brk =>
      obtain ⟨σ6, H6, S6, q6⟩ := hsp
      exact q6.elim
    | cont =>
      obtain ⟨σ6, H6, S6, q6⟩ := hsp
      exact q6.elim
    | ret u =>
      obtain ⟨v6, σ6, H6, S6, r6, q6⟩ := hsp
      exact q6.elim
  · cases f with
    | next =>
      obtain ⟨σ', H', J', q⟩ := hsp
      exact wpAny_execs_nil ⟨σ', H', J'.ofTry ok, q⟩
    | brk =>
      obtain ⟨σ', H', J', q⟩ := hsp
      exact ⟨σ', H', J'.ofTry ok, q⟩
    | cont =>
      obtain ⟨σ', H', J', q⟩ := hsp
      exact ⟨σ', H', J'.ofTry ok, q⟩
    | ret u =>
      obtain ⟨v, σ', H', J', r, q⟩ := hsp
      exact ⟨v, σ', H', J'.ofTry ok, r, q⟩
end
end Wk

set_option Elab.async false
set_option linter.all false
set_option maxRecDepth 100000
set_option maxHeartbeats 4000000
namespace Wk
open PySem PySem.Spec PyProof.Rows L2
/-! ### errors by their names -/
/-- c is an x (the text's own classes: all stand straight under SluiceError) -/
def subX (c x : Str) : Bool := decide (c = x) || decide (x = ("SluiceError" : Str))
/-- what the heap says of the classes ns (raised), ts (asked for) -/
structure XF (K : Frag) (mg : Str → Option Value) (ns ts : List Str) : Prop where
  cls : ∀ c ∈ ns, ExcC K (He.ga K c)
  glo : ∀ c ∈ ns ++ ts, mg c = some (.ref (He.ga K c))
  exm : ∀ c ∈ ns, ∀ x ∈ ts, PySem.W.exmOne K (.ref (He.ga K c)) (.ref (He.ga K x)) = some (subX c x)
  isi : ∀ c ∈ ns, ∀ x ∈ ts, PySem.W.kitOne K (.ref (He.ga K c)) (.ref (He.ga K x)) = some (subX c x)
  isv : ∀ c ∈ ns, PySem.W.kitOne K (.ref (He.ga K c)) (.type "ValueError") = some true
  non : ∀ x ∈ ts, PySem.W.kitOne K (.type "NoneType") (.ref (He.ga K x)) = some false
/-- .. as a truth -/
def excCB (K : Frag) (D : Addr) : Bool :=
  He.eqO (PySem.W.findIn K (.ref D) "__getattribute__") (some (some (.builtin "BaseException.__getattribute__"))) && (He.eqO (PySem.W.findIn K (.ref D) "__getattr__") (some none) && (decide (PySem.W.subIn K (.ref D) (.type "BaseException") = some true) && (PySem.W.hasDictIn K D &&
  (He.eqO (PySem.W.findIn K (.ref D) "__class__") (some (some (.builtin "object.__class__"))) && (He.eqO (PySem.W.specialIn K (.builtin "object.__class__") "__get__") (some (some (.builtin "getset_descriptor.__get__"))) && (decide (PySem.W.takesIn K (.builtin "object.__class__") = some true) && decide (PySem.W.mroIn K D (.type "object") = some true)))))))
theorem excCB_ok {K : Frag} {D : Addr} (h : excCB K D = true) : ExcC K D := by
  unfold excCB at h
  obtain ⟨a1, h⟩ := He.ba h
  obtain ⟨a2, h⟩ := He.ba h
  obtain ⟨a3, h⟩ := He.ba h
  obtain ⟨a4, h⟩ := He.ba h
  obtain ⟨a5, h⟩ := He.ba h
  obtain ⟨a6, h⟩ := He.ba h
  obtain ⟨a7, a8⟩ := He.ba h
  exact ⟨He.eqO_ok a1, He.eqO_ok a2, of_decide_eq_true a3, a4, He.eqO_ok a5, He.eqO_ok a6, of_decide_eq_true a7, of_decide_eq_true a8⟩
def xfB (K : Frag) (ns ts : List Str) : Bool :=
  (ns.all fun c => excCB K (He.ga K c)) && (((ns ++ ts).all fun c => He.eqO (PySem.W.nsIn K mainGlobals c) (some (some (.ref (He.ga K c))))) && ((ns.all fun c => ts.all fun x => decide (PySem.W.exmOne K (.ref (He.ga K c)) (.ref (He.ga K x)) = some (subX c x))) &&
  ((ns.all fun c => ts.all fun x => decide (PySem.W.kitOne K (.ref (He.ga K c)) (.ref (He.ga K x)) = some (subX c x))) && ((ns.all fun c => decide (PySem.W.kitOne K (.ref (He.ga K c)) (.type "ValueError") = some true)) && (ts.all fun x => decide (PySem.W.kitOne K (.type "NoneType") (.ref (He.ga K x)) = some false))))))
theorem xfB_ok {K : Frag} {h : Heap} {mg : Str → Option Value} {ns ts : List Str} (X : K.In h) (G : h.Ns mainGlobals mg) (c : xfB K ns ts = true) : XF K mg ns ts := by
  unfold xfB at c
  obtain ⟨a1, c⟩ := He.ba c
  obtain ⟨a2, c⟩ := He.ba c
  obtain ⟨a3, c⟩ := He.ba c
  obtain ⟨a4, c⟩ := He.ba c
  obtain ⟨a5, a6⟩ := He.ba c
  refine ⟨fun c hc => excCB_ok (List.all_eq_true.mp a1 c hc), fun c hc => PySem.W.mg_of X G (He.eqO_ok (List.all_eq_true.mp a2 c hc)), fun c hc x hx => ?_, fun c hc x hx => ?_, fun c hc => ?_, fun x hx => ?_⟩
  · exact of_decide_eq_true (List.all_eq_true.mp (List.all_eq_true.mp a3 c hc) x hx)
  · exact of_decide_eq_true (List.all_eq_true.mp (List.all_eq_true.mp a4 c hc) x hx)
  · exact of_decide_eq_true (List.all_eq_true.mp a5 c hc)
  · exact of_decide_eq_true (List.all_eq_true.mp a6 x hx)
/-- an error that is kept -/
def eX {K : Frag} (ns : List Str) : Enc K Str := ⟨fun F v c => c ∈ ns ∧ ∃ a, v = .ref a ∧ F a = some (ExT (.ref (He.ga K c)) a), fun s ⟨h0, a, h1, h2⟩ => ⟨h0, a, h1, s _ _ h2⟩⟩
theorem nonX {K : Frag} {ns : List Str} : NoN (eX (K := K) ns) := fun F v a h z => by
  obtain ⟨_, p, e, _⟩ := h
  rw [e] at z; cases z
def rIsX (K : Frag) : List V → Hp → VK → Prop := fun xs H Q => ∃ (a D : Addr) (c : V) (u : Value) (b : Bool), xs = [.ref a, c] ∧ ClsV c u ∧ H a = some (ExT (.ref D) a) ∧ ExcC K D ∧ PySem.W.kitOne K (.ref D) u = some b ∧ Q (.bl b) H
theorem call_isX {X : Cx} : CallR X (.builtin "isinstance") (rIsX X.K) := by
  intro pins s σ H xs us Q I r h
  obtain ⟨a, D, c, u, b, rfl, k, ea, C, e, q⟩ := h
  obtain ⟨u1, u2, rfl, r1, r2⟩ := vals2 r
  have e2 := k.eq r2
  subst e2
  cases (show u1 = Value.ref a from r1)
  obtain ⟨⟨oe, vs, e1, hz, hv⟩, _, _⟩ := I.hok a _ ea
  have J : PySem.W.InstAt s.heap a oe D none := by
    obtain ⟨oc, od, oda, osl⟩ := oe
    obtain ⟨h1, h2⟩ := hz
    dsimp only at h1 h2 hv
    subst h1 h2 hv
    exact ⟨e1, rfl, rfl, trivial⟩
  exact PySem.W.kia_one (PySem.W.handS_kitx_exc C.hg C.hk C.hs C.hd C.ha C.hn C.ht C.hm) I.kIn J e (fun z => nomatch z) fun tk => ⟨.bl b, H, I.tok tk, rfl, q⟩
/-- what may be an error that is kept, or None -/
def isXO (o : Option Str) (x : Str) : Bool := match o with
  | none => false
  | some c => subX c x
section
variable {X : Cx} {Z : Fz} {sp : Spec X.K} {a b c e : Expr} {es : List Expr} {pos p p2 fp xp : Pos} {α β γ ρ : Type} {k j : Nat} {x : Str} {F F' H H' : Hp} {ad : List Addr} {σ : Sg} {Qr : ρ → Prop} {D : Ends} {st : Stmt} {rest body thn els : List Stmt} {ns ts : List Str}
theorem ej_isXO {m : Res (Option Str)} (xf : XF X.K X.mg ns ts) (hm : X.mg "isinstance" = none) (ha : EJ X Z sp a m (eO (eX ns))) (hx : x ∈ ts := by decide) (hg : Gl X "isinstance" := by rfl) (hg2 : Gl X x := by rfl) (hn : nst a = true := by rfl) (hdb : (x == ("__debug__" : Str)) = false := by decide) :
    EJ X Z sp (.Call (.Name "isinstance" fp) [a, .Name x xp] [] pos) (m.bi fun o => .ok (isXO o x)) eB := fun F ad σ H Q S hq => by
  have gx := xf.glo x (List.mem_append_right _ hx)
  have pc : PE X (.Name x xp) (tC (.ref (He.ga X.K x))) := pe_glob hg2 gx rfl hdb
  have hb : PE X (.Call (.Name "isinstance" fp) [a, .Name x xp] [] pos) (fun σ H Q => wE X a σ H fun v H1 => (v = .non ∧ Q (.bl false) H1) ∨ ∃ c ∈ ns, ∃ p, v = .ref p ∧ H1 p = some (ExT (.ref (He.ga X.K c)) p) ∧ Q (.bl (subX c x)) H1) := ⟨fun pins s σ H Q I h => by
    have h1 := callB2 (call_isi (X := X)) (pos := pos) (fp := fp) hg hm PyProof.Rows.boot_isinstance hn (b := .Name x xp) rfl
    have h2 := callB2 (call_isX (X := X)) (pos := pos) (fp := fp) hg hm PyProof.Rows.boot_isinstance hn (b := .Name x xp) rfl
    have h3 : CallR X (.builtin "isinstance") (fun xs H Q => rIsi X.K xs H Q ∨ rIsX X.K xs H Q) := fun pins s σ H xs us Q I r h => by
      rcases h with h | h
      · exact call_isi pins s σ H xs us Q I r h
      · exact call_isX pins s σ H xs us Q I r h
    have h4 := callB2 h3 (pos := pos) (fp := fp) hg hm PyProof.Rows.boot_isinstance hn (b := .Name x xp) rfl
    refine h4.run pins s σ H Q I ?_
    have mono : ∀ {Q1 Q2 : VK}, (∀ v H, Q1 v H → Q2 v H) → wE X a σ H Q1 → wE X a σ H Q2 := fun {Q1 Q2} hk hw => by
      unfold wE at hw ⊢
      intro pins s I
      exact wpAny_mono (hw pins s I) (fun u s' ⟨v, H', I', r', q'⟩ => ⟨v, H', I', r', hk v H' q'⟩) fun _ _ z => z
    refine mono (fun v H1 hq => ?_) h
    refine ofE pc ?_
    rcases hq with ⟨rfl, q⟩ | ⟨c, hc, p, rfl, hp, q⟩
    · exact .inl ⟨.non, .ref (He.ga X.K x), .type "NoneType", .ref (He.ga X.K x), false, rfl, .own _, .base .non, xf.non x hx, q⟩
    · exact .inr ⟨p, He.ga X.K c, .ref (He.ga X.K x), .ref (He.ga X.K x), subX c x, rfl, .own _, hp, xf.cls c hc, xf.isi c hc x hx, q⟩⟩
  refine ofE hb ?_
  refine ha F ad σ H _ S (hq.bi.imp fun o q F1 H1 v n1 r1 => ?_)
  cases o with
  | none => exact .inl ⟨r1, q F1 H1 _ n1 rfl⟩
  | some c =>
    obtain ⟨hc, p, e1, e2⟩ := r1
    exact .inr ⟨c, hc, p, e1, n1.fh _ _ e2, q F1 H1 _ n1 rfl⟩
theorem ej_isXO_p {o : Option Str} (xf : XF X.K X.mg ns ts) (hm : X.mg "isinstance" = none) (ha : EJ X Z sp a (.ok o) (eO (eX ns))) (hx : x ∈ ts := by decide) (hg : Gl X "isinstance" := by rfl) (hg2 : Gl X x := by rfl) (hn : nst a = true := by rfl) (hdb : (x == ("__debug__" : Str)) = false := by decide) :
    EJ X Z sp (.Call (.Name "isinstance" fp) [a, .Name x xp] [] pos) (.ok (isXO o x)) eB := ej_isXO xf hm ha hx hg hg2 hn hdb
theorem ej_isX {m : Res Str} (xf : XF X.K X.mg ns ts) (hm : X.mg "isinstance" = none) (ha : EJ X Z sp a m (eX ns)) (hx : x ∈ ts := by decide) (hg : Gl X "isinstance" := by rfl) (hg2 : Gl X x := by rfl) (hn : nst a = true := by rfl) (hdb : (x == ("__debug__" : Str)) = false := by decide) :
    EJ X Z sp (.Call (.Name "isinstance" fp) [a, .Name x xp] [] pos) (m.bi fun c => .ok (subX c x)) eB := fun F ad σ H Q S hq =>
  ej_isXO (m := m.bi fun a => .ok (some a)) xf hm (ej_some ha) hx hg hg2 hn hdb F ad σ H Q S (by
    rw [bi_bi]
    exact hq)
theorem ej_isX_p {o : Str} (xf : XF X.K X.mg ns ts) (hm : X.mg "isinstance" = none) (ha : EJ X Z sp a (.ok o) (eX ns)) (hx : x ∈ ts := by decide) (hg : Gl X "isinstance" := by rfl) (hg2 : Gl X x := by rfl) (hn : nst a = true := by rfl) (hdb : (x == ("__debug__" : Str)) = false := by decide) :
    EJ X Z sp (.Call (.Name "isinstance" fp) [a, .Name x xp] [] pos) (.ok (subX o x)) eB := ej_isX xf hm ha hx hg hg2 hn hdb
/-- isinstance(e, ValueError) -/
theorem ej_isVO {m : Res (Option Str)} (xf : XF X.K X.mg ns ts) (hm : X.mg "isinstance" = none) (hm2 : X.mg "ValueError" = none) (ha : EJ X Z sp a m (eO (eX ns))) (hg : Gl X "isinstance" := by rfl) (hg2 : Gl X "ValueError" := by rfl) (hn : nst a = true := by rfl) :
    EJ X Z sp (.Call (.Name "isinstance" fp) [a, .Name "ValueError" xp] [] pos) (m.bi fun o => .ok !o.isNone) eB := fun F ad σ H Q S hq => by
  have pc : PE X (.Name "ValueError" xp) (tC (.ty "ValueError")) := pe_bltn (v := .ty "ValueError") hg2 hm2 (by decide +kernel) rfl (by decide) (by decide)
  have hb : PE X (.Call (.Name "isinstance" fp) [a, .Name "ValueError" xp] [] pos) (fun σ H Q => wE X a σ H fun v H1 => (v = .non ∧ Q (.bl false) H1) ∨ ∃ c ∈ ns, ∃ p, v = .ref p ∧ H1 p = some (ExT (.ref (He.ga X.K c)) p) ∧ Q (.bl true) H1) := ⟨fun pins s σ H Q I h => by
    have h3 : CallR X (.builtin "isinstance") (fun xs H Q => rIsi X.K xs H Q ∨ rIsX X.K xs H Q) := fun pins s σ H xs us Q I r h => by
      rcases h with h | h
      · exact call_isi pins s σ H xs us Q I r h
      · exact call_isX pins s σ H xs us Q I r h
    have h4 := callB2 h3 (pos := pos) (fp := fp) hg hm PyProof.Rows.boot_isinstance hn (b := .Name "ValueError" xp) rfl
    refine h4.run pins s σ H Q I ?_
    have mono : ∀ {Q1 Q2 : VK}, (∀ v H, Q1 v H → Q2 v H) → wE X a σ H Q1 → wE X a σ H Q2 := fun {Q1 Q2} hk hw => by
      unfold wE at hw ⊢
      intro pins s I
      exact wpAny_mono (hw pins s I) (fun u s' ⟨v, H', I', r', q'⟩ => ⟨v, H', I', r', hk v H' q'⟩) fun _ _ z => z
    refine mono (fun v H1 hq => ?_) h
    refine ofE pc ?_
    rcases hq with ⟨rfl, q⟩ | ⟨c, hc, p, rfl, hp, q⟩
    · exact .inl ⟨.non, .ty "ValueError", .type "NoneType", .type "ValueError", false, rfl, .ty _, .base .non, kit_ty (by decide +kernel), q⟩
    · exact .inr ⟨p, He.ga X.K c, .ty "ValueError", .type "ValueError", true, rfl, .ty _, hp, xf.cls c hc, xf.isv c hc, q⟩⟩
  refine ofE hb ?_
  refine ha F ad σ H _ S (hq.bi.imp fun o q F1 H1 v n1 r1 => ?_)
  cases o with
  | none => exact .inl ⟨r1, q F1 H1 _ n1 rfl⟩
  | some c =>
    obtain ⟨hc, p, e1, e2⟩ := r1
    exact .inr ⟨c, hc, p, e1, n1.fh _ _ e2, q F1 H1 _ n1 rfl⟩
theorem ej_isVO_p {o : Option Str} (xf : XF X.K X.mg ns ts) (hm : X.mg "isinstance" = none) (hm2 : X.mg "ValueError" = none) (ha : EJ X Z sp a (.ok o) (eO (eX ns))) (hg : Gl X "isinstance" := by rfl) (hg2 : Gl X "ValueError" := by rfl) (hn : nst a = true := by rfl) :
    EJ X Z sp (.Call (.Name "isinstance" fp) [a, .Name "ValueError" xp] [] pos) (.ok !o.isNone) eB := ej_isVO xf hm hm2 ha hg hg2 hn
theorem ej_isV {m : Res Str} (xf : XF X.K X.mg ns ts) (hm : X.mg "isinstance" = none) (hm2 : X.mg "ValueError" = none) (ha : EJ X Z sp a m (eX ns)) (hg : Gl X "isinstance" := by rfl) (hg2 : Gl X "ValueError" := by rfl) (hn : nst a = true := by rfl) :
    EJ X Z sp (.Call (.Name "isinstance" fp) [a, .Name "ValueError" xp] [] pos) (m.bi fun _ => .ok true) eB := fun F ad σ H Q S hq =>
  ej_isVO (m := m.bi fun a => .ok (some a)) xf hm hm2 (ej_some ha) hg hg2 hn F ad σ H Q S (by
    rw [bi_bi]
    exact hq)
theorem ej_isV_p {o : Str} (xf : XF X.K X.mg ns ts) (hm : X.mg "isinstance" = none) (hm2 : X.mg "ValueError" = none) (ha : EJ X Z sp a (.ok o) (eX ns)) (hg : Gl X "isinstance" := by rfl) (hg2 : Gl X "ValueError" := by rfl) (hn : nst a = true := by rfl) :
    EJ X Z sp (.Call (.Name "isinstance" fp) [a, .Name "ValueError" xp] [] pos) (.ok true) eB := ej_isV xf hm hm2 ha hg hg2 hn
/-! ### the body of a try -/
def TBJ (X : Cx) (Z : Fz) (sp : Spec X.K) (body : List Stmt) {β : Type} (m : Res β) (spN : β → Spec X.K) (spE : Spec X.K) : Prop :=
  ∀ (F : Hp) (ad : List Addr) (σ : Sg) (H : Hp) (D : Ends) (W : WX), SOk Z F ad sp σ H → Takes X W →
    mwp m (fun r => ∀ F' ad' σ' H', SOk Z F' ad' (spN r) σ' H' → D.nx σ' H') (fun c => ∀ C F' ad' H', SOk Z F' ad' spE σ H' → X.mg c = some (.ref C) → W (.ref C) none σ H') → wB X body D σ H
theorem tbj_core {A : ArE X.K γ} {mf : γ → Res ρ} {R : RtE ρ} {ma : Res γ} (hr : Room k X.A) (C : Cal X.prog X.w X.K X.mg X.base x j (spF X.mg A mf R)) (hj : j ≤ k) (ha : AJ X Z.mute sp (e :: es) ma A) (hn : nst e = true) (hg : Gl X x)
    (hpl : (backTo pos (starEach es X.env)).any (·.1) = false) (hdb : (x == ("__debug__" : Str)) = false) (F : Hp) (ad : List Addr) (σ : Sg) (H : Hp) (Q : VK) (W : WX) (S : SOk Z F ad sp σ H) (tk : Takes X W)
    (hm : mwp (ma.nx.bi mf) (fun r => ∀ F' H' v F1 H1, Nx F H F1 H1 → Nx F1 H1 F' H' → R H1 F' H' v r → Q v H') (fun c => ∀ C F' ad' H', SOk Z F' ad' sp σ H' → X.mg c = some (.ref C) → W (.ref C) none σ H')) : wE X (.Call (.Name x fp) (e :: es) [] pos) σ H Q := by
  obtain ⟨f, fd, ps, G, hmg, hk, hb⟩ := C.ex
  refine ofE (pe_callS (E := WE W) G (hr.mono hj) hg hmg hk hb (fun σ => passAt tk σ) pa_w hdb (star_cons hn) hpl) ?_
  refine ha F ad σ H _ (S.er (Er := fun _ => False)) ((mwp.nx (mwp.bi hm)).imp fun g q F1 H1 vs n1 r1 => ?_)
  show spF X.mg A mf R vs H1 Q (WE W σ)
  exact ⟨F1, g, n1.fh, r1, q.imp2 (fun r q F' H' v n2 hr => q F' H' v F1 H1 n1 n2 hr) fun c q C H' hC s => q C F1 ad H' ((S.nx n1).nx ⟨Same.refl _, s, n1.fh.trans s, fun _ h => .inl h⟩) hC⟩
/-- f(..) -/
theorem tbj_ex {A : ArE X.K γ} {mf : γ → Res ρ} {R : RtE ρ} {ma : Res γ} {pos' : Pos} (hr : Room k X.A) (C : Cal X.prog X.w X.K X.mg X.base x j (spF X.mg A mf R)) (hj : j ≤ k) (ha : AJ X Z.mute sp (e :: es) ma A) (hn : nst e = true := by rfl) (hg : Gl X x := by rfl)
    (hpl : (backTo pos (starEach es X.env)).any (·.1) = false := by rfl) (hdb : (x == ("__debug__" : Str)) = false := by decide) (hw : swapsWith (.Call (.Name x fp) (e :: es) [] pos) none pos'.line X.env = pure false := by rfl) :
    TBJ X Z sp [.Expr (.Call (.Name x fp) (e :: es) [] pos) pos'] ((ma.nx.bi mf).bi fun _ => .ok ()) (fun _ => sp) sp := fun F ad σ H D W S tk hm => by
  refine ofB (pss_one (ps_expr pe_w hw)) ?_
  refine tbj_core hr C hj ha hn hg hpl hdb F ad σ H _ W S tk (hm.bi.imp2 (fun r q F' H' v F1 H1 n1 n2 _ => ?_) fun c q => q)
  exact q F' ad σ H' (S.nx (n1.trans n2))
/-- y = f(..) -/
theorem tbj_as {A : ArE X.K γ} {mf : γ → Res ρ} {en : Enc X.K ρ} {ma : Res γ} {i : Nat} {y : Str} {py spos : Pos} (am : Amb X Z.mute k) (C : Cal X.prog X.w X.K X.mg X.base x j (spF X.mg A mf (rtV en))) (hj : j ≤ k) (ha : AJ X Z.mute sp (e :: es) ma A) (hn : nst e = true := by rfl) (hg : Gl X x := by rfl)
    (hpl : (backTo pos (starEach es X.env)).any (·.1) = false := by rfl) (hdb : (x == ("__debug__" : Str)) = false := by decide) (hi : X.N[i]? = some y := by rfl) (hx : Loc X.env.scope y := by first | exact Or.inl rfl | exact Or.inr rfl)
    (hs : swapsWith (.Call (.Name x fp) (e :: es) [] pos) (some (.Name y py)) spos.line X.env = pure false := by rfl) (hf : X.fn y = true ∨ X.env.scope.names.lookup y = some .local := by first | exact .inl rfl | exact .inr rfl) :
    TBJ X Z sp [.Assign [.Name y py] (.Call (.Name x fp) (e :: es) [] pos) spos] (ma.nx.bi mf) (fun r => ⟨sp.sl.set i (.val en r), sp.ob⟩) sp := fun F ad σ H D W S tk hm => by
  refine ofB (pss_one (ps_set am.nd hi hx pe_w hs hf)) ?_
  refine tbj_core am.hr C hj ha hn hg hpl hdb F ad σ H _ W S tk (hm.imp2 (fun r q F' H' v F1 H1 n1 n2 hr => ?_) fun c q => q)
  exact q F' ad _ H' ((S.nx (n1.trans n2)).set ⟨v, rfl, hr⟩)
/-- y = f(..), a new list that stays as it is -/
theorem tbj_asN {A : ArE X.K γ} {mf : γ → Res (List ρ)} {en : Enc X.K ρ} {ma : Res γ} {i : Nat} {y : Str} {py spos : Pos} (am : Amb X Z.mute k) (C : Cal X.prog X.w X.K X.mg X.base x j (spF X.mg A mf (rtN en))) (hj : j ≤ k) (ha : AJ X Z.mute sp (e :: es) ma A) (hn : nst e = true := by rfl) (hg : Gl X x := by rfl)
    (hpl : (backTo pos (starEach es X.env)).any (·.1) = false := by rfl) (hdb : (x == ("__debug__" : Str)) = false := by decide) (hi : X.N[i]? = some y := by rfl) (hx : Loc X.env.scope y := by first | exact Or.inl rfl | exact Or.inr rfl)
    (hs : swapsWith (.Call (.Name x fp) (e :: es) [] pos) (some (.Name y py)) spos.line X.env = pure false := by rfl) (hf : X.fn y = true ∨ X.env.scope.names.lookup y = some .local := by first | exact .inl rfl | exact .inr rfl) :
    TBJ X Z sp [.Assign [.Name y py] (.Call (.Name x fp) (e :: es) [] pos) spos] (ma.nx.bi mf) (fun r => ⟨sp.sl.set i (.val (eL en) r), sp.ob⟩) sp := fun F ad σ H D W S tk hm => by
  refine ofB (pss_one (ps_set am.nd hi hx pe_w hs hf)) ?_
  refine tbj_core am.hr C hj ha hn hg hpl hdb F ad σ H _ W S tk (hm.imp2 (fun r q F' H' v F1 H1 n1 n2 hr => ?_) fun c q => q)
  obtain ⟨p, vs, rfl, h1, h2, h3, hz, h4⟩ := hr
  exact q (L2.upd F' p (.lst vs)) ad _ H' ((S.nx ((n1.trans n2).fix (n1.hh.free h1) h2 h3)).set ⟨.ref p, rfl, p, vs, rfl, upd_same, hz, h4.mono (same_upd h2)⟩)
/-- y = f(..) -/
theorem tbj_asO {A : ArE X.K γ} {mf : γ → Res ρ} {en : Enc X.K ρ} {ma : Res γ} {i : Nat} {y : Str} {py spos : Pos} (am : Amb X Z.mute k) (C : Cal X.prog X.w X.K X.mg X.base x j (spF X.mg A mf (rtV en))) (hj : j ≤ k) (ha : AJ X Z.mute sp (e :: es) ma A) (hn : nst e = true := by rfl) (hg : Gl X x := by rfl)
    (hpl : (backTo pos (starEach es X.env)).any (·.1) = false := by rfl) (hdb : (x == ("__debug__" : Str)) = false := by decide) (hi : X.N[i]? = some y := by rfl) (hx : Loc X.env.scope y := by first | exact Or.inl rfl | exact Or.inr rfl)
    (hs : swapsWith (.Call (.Name x fp) (e :: es) [] pos) (some (.Name y py)) spos.line X.env = pure false := by rfl) (hf : X.fn y = true ∨ X.env.scope.names.lookup y = some .local := by first | exact .inl rfl | exact .inr rfl) :
    TBJ X Z sp [.Assign [.Name y py] (.Call (.Name x fp) (e :: es) [] pos) spos] (ma.nx.bi mf) (fun r => ⟨sp.sl.set i (.val (eO en) (some r)), sp.ob⟩) sp := fun F ad σ H D W S tk hm => by
  refine ofB (pss_one (ps_set am.nd hi hx pe_w hs hf)) ?_
  refine tbj_core am.hr C hj ha hn hg hpl hdb F ad σ H _ W S tk (hm.imp2 (fun r q F' H' v F1 H1 n1 n2 hr => ?_) fun c q => q)
  exact q F' ad _ H' ((S.nx (n1.trans n2)).set ⟨v, rfl, hr⟩)
/-- y = f(..), a new list that stays as it is -/
theorem tbj_asNO {A : ArE X.K γ} {mf : γ → Res (List ρ)} {en : Enc X.K ρ} {ma : Res γ} {i : Nat} {y : Str} {py spos : Pos} (am : Amb X Z.mute k) (C : Cal X.prog X.w X.K X.mg X.base x j (spF X.mg A mf (rtN en))) (hj : j ≤ k) (ha : AJ X Z.mute sp (e :: es) ma A) (hn : nst e = true := by rfl) (hg : Gl X x := by rfl)
    (hpl : (backTo pos (starEach es X.env)).any (·.1) = false := by rfl) (hdb : (x == ("__debug__" : Str)) = false := by decide) (hi : X.N[i]? = some y := by rfl) (hx : Loc X.env.scope y := by first | exact Or.inl rfl | exact Or.inr rfl)
    (hs : swapsWith (.Call (.Name x fp) (e :: es) [] pos) (some (.Name y py)) spos.line X.env = pure false := by rfl) (hf : X.fn y = true ∨ X.env.scope.names.lookup y = some .local := by first | exact .inl rfl | exact .inr rfl) :
    TBJ X Z sp [.Assign [.Name y py] (.Call (.Name x fp) (e :: es) [] pos) spos] (ma.nx.bi mf) (fun r => ⟨sp.sl.set i (.val (eO (eL en)) (some r)), sp.ob⟩) sp := fun F ad σ H D W S tk hm => by
  refine ofB (pss_one (ps_set am.nd hi hx pe_w hs hf)) ?_
  refine tbj_core am.hr C hj ha hn hg hpl hdb F ad σ H _ W S tk (hm.imp2 (fun r q F' H' v F1 H1 n1 n2 hr => ?_) fun c q => q)
  obtain ⟨p, vs, rfl, h1, h2, h3, hz, h4⟩ := hr
  exact q (L2.upd F' p (.lst vs)) ad _ H' ((S.nx ((n1.trans n2).fix (n1.hh.free h1) h2 h3)).set ⟨.ref p, rfl, p, vs, rfl, upd_same, hz, h4.mono (same_upd h2)⟩)
/-- by a test -/
theorem tbj_if {mc : Res Bool} {mA mB : Res β} {spN : β → Spec X.K} {spE : Spec X.K} (hc : TJ X Z.mute sp c mc) (hA : TBJ X Z sp thn mA spN spE) (hB : TBJ X Z sp els mB spN spE) : TBJ X Z sp [.If c thn els pos] (mc.nx.bi fun b => if b then mA else mB) spN spE := fun F ad σ H D W S tk hm => by
  refine ofB (pss_one (ps_if pt_w pb_w pb_w)) ?_
  refine hc F ad σ H _ (S.er (Er := fun _ => False)) ((mwp.nx (mwp.bi hm)).imp fun b q F' H' n => ?_)
  cases b with
  | true => exact hA F' ad σ H' D W (S.nx n) tk q
  | false => exact hB F' ad σ H' D W (S.nx n) tk q
/-- what comes of it: what it gives, or the error's name -/
def tryM (ns : List Str) (m : Res β) : Res (β ⊕ Str) := match m with
  | .ok a => .ok (.inl a)
  | .exc c => if c ∈ ns then .ok (.inr c) else .bad
  | .bad => .bad
theorem mwp.try {m : Res β} {Q : β ⊕ Str → Prop} {E : Str → Prop} (h : mwp (tryM ns m) Q E) : mwp m (fun a => Q (.inl a)) (fun c => c ∈ ns ∧ Q (.inr c)) := by
  cases m with
  | ok a => exact h
  | bad => exact h
  | exc c =>
    have h : mwp (if c ∈ ns then (Res.ok (.inr c) : Res (β ⊕ Str)) else .bad) Q E := h
    by_cases hc : c ∈ ns
    · rw [if_pos hc] at h
      exact ⟨hc, h⟩
    · rw [if_neg hc] at h
      exact h.elim
theorem SOk.keepX {c : Str} {l : Addr} {i ic : Nat} {v : Option V} (S : SOk Z F ad sp σ H) (hc : c ∈ ns) (hl : H l = none) : SOk Z (L2.upd F l (ExT (.ref (He.ga X.K c)) l)) ad ⟨(sp.sl.set i .any).set ic (.val (eO (eX ns)) (some c)), sp.ob⟩ ((σ.set i none).set ic (some (.ref l))) (L2.upd H l (ExT (.ref (He.ga X.K c)) l)) := by
  have n : Nx F H (L2.upd F l (ExT (.ref (He.ga X.K c)) l)) (L2.upd H l (ExT (.ref (He.ga X.K c)) l)) := (S.refl.new hl).fix hl (S.fh.free hl) upd_same
  exact ((S.nx n).drop1 i).set ⟨.ref l, rfl, hc, l, rfl, upd_same⟩
theorem set_set_none {σ : Sg} {i ic : Nat} {v w : Option V} (h : ic ≠ i) : ((σ.set i v).set ic w).set i none = (σ.set i none).set ic w := by
  rw [List.set_comm _ _ h, List.set_set]
/-- try: body, except X as n: y = n -/
theorem bj_tryS {S : Type} {mb : Res β} {spN : β → Spec X.K} {spE : Spec X.K} {sps : S → Spec X.K} {fN : β → S} {fE : Str → S} {kk : S → Res ρ} {i ic : Nat} {n y : Str} {np p1 p3 pos' : Pos} {ks ks' : List Nat} (am : Amb X Z k) (xf : XF X.K X.mg ns ts)
    (hb : ∀ pn xe, Amb (X.tr pn xe) Z.mute k → TBJ (X.tr pn xe) Z sp body mb spN spE) (leN : ∀ r, Le (spN r) (sps (fN r)) ks) (leE : ∀ c, Le ⟨(spE.sl.set i .any).set ic (.val (eO (eX ns)) (some c)), spE.ob⟩ (sps (fE c)) ks') (hr : ∀ s, BJ X Z Qr D (sps s) rest (kk s))
    (hsub : ns.all (fun c => subX c x) = true := by decide) (hts : x ∈ ts := by decide) (hic : ic ≠ i := by decide) (hil : Nat.ble (i + 1) spE.sl.length = true := by rfl)
    (hi : X.N[i]? = some n := by rfl) (hy : X.N[ic]? = some y := by rfl) (hln : X.env.kindOf n = some .local := by rfl) (hyl : X.env.scope.names.lookup y = some .local := by rfl)
    (hs : X.stack = X.env :: X.outer := by rfl) (hf : X.env.frame = some X.env.locals := by rfl) (hex : X.ex = [] := by rfl) (hg : Gl X x := by rfl) (hdb : (x == ("__debug__" : Str)) = false := by decide) (hnl : n ≠ y := by decide)
    (hv : Vis X.env.scope n := by first | exact Or.inl rfl | exact Or.inr (Or.inl rfl) | exact Or.inr (Or.inr rfl)) (hd : (n == ("__debug__" : Str)) = false := by decide) (hcd : (n == ("__classdict__" : Str)) = false := by decide)
    (hsw : swapsWith (.Name n p2) (some (.Name y p1)) p3.line X.env = pure false := by rfl) :
    BJ X Z Qr D sp (.Try body [.ExceptHandler (some (.Name x np)) (some n) [.Assign [.Name y p1] (.Name n p2) p3] pos'] [] [] pos :: rest) (((tryM ns mb).bi fun r => .ok (Sum.elim fN fE r)).bi kk) := fun F ad σ H S0 hm => by
  rw [bi_bi] at hm
  refine seq (ofS (ps_try_asX (X := X) (i := i) hs hf hex am.nd hi hln ⟨hg, hdb, .inl (xf.glo x (List.mem_append_right _ hts))⟩ (tb := fun W D σ H => ∀ pn xe, Takes (X.tr pn xe) W → PassesOwn (model X.prog X.w) X.A X.env xe → wB (X.tr pn xe) body D σ H) (ts := fun a cls d D σ H => σ[i]? = some (some (.ref a)) ∧ D.nx (σ.set ic (some (.ref a))) H)
    (fun W pn xe tk po => ⟨fun pins s σ H D I h => pb_w.run pins s σ H D I (h pn xe tk po)⟩)
    (fun a oe cls d pn hz hv' => ⟨fun pins s σ H D I h => ?_⟩)) ?_)
  · obtain ⟨h1, h2⟩ := h
    have pv : PE (X.suite a ((a, oe) :: pn)) (.Name n p2) (tVar i) := pe_var (X := X.suite a ((a, oe) :: pn)) (i := i) hi hv hd hcd
    have ps : PS (X.suite a ((a, oe) :: pn)) (.Assign [.Name y p1] (.Name n p2) p3) (tAsg (tVar i) (gName ic)) := ps_set (X := X.suite a ((a, oe) :: pn)) (i := ic) am.nd hy (.inl hyl) pv hsw (.inr hyl)
    refine (pss_one ps).run pins s σ H D I ?_
    exact ⟨.ref a, h1, h2⟩
  · intro pn xe tk po
    refine hb pn xe ⟨am.hr, am.calm, am.nd, po, fun _ _ _ => False, takes0, fun _ h => h.elim⟩ F ad σ H { D with nx := wB X rest D } (wAsX X.K (.ref (He.ga X.K x)) i (fun a cls d D σ H => σ[i]? = some (some (.ref a)) ∧ D.nx (σ.set ic (some (.ref a))) H) { D with nx := wB X rest D }) S0 tk ?_
    refine (mwp.try (mwp.bi hm)).imp2 (fun r q F' ad' σ' H' S' => ?_) fun c ⟨hc, q⟩ C F' ad' H' S' hC => ?_
    · obtain ⟨ad2, S2⟩ := (leN r).go Z F' ad' σ' H' S'
      exact hr _ F' ad2 σ' H' S2 q
    · have eC : C = He.ga X.K c := by
        have z := (xf.glo c (List.mem_append_left _ hc)).symm.trans hC
        injection z with z
        injection z with z
        exact z.symm
      subst eC
      refine ⟨rfl, ?_, fun a na => ⟨?_, ?_⟩⟩
      · rw [xf.exm c hc x hts, List.all_eq_true.mp hsub c hc]
      · rw [List.getElem?_set_self]
        rw [← S'.len]
        exact Nat.le_of_ble_eq_true hil
      · have S2 := SOk.keepX (ns := ns) (i := i) (ic := ic) (v := none) S' hc na
        obtain ⟨ad2, S3⟩ := (leE c).go Z _ ad' _ _ S2
        show wB X rest D (((σ.set i (some (.ref a))).set ic (some (.ref a))).set i none) _
        rw [set_set_none hic]
        exact hr _ _ ad2 _ _ S3 q
end
/-! ### the head's facts, and of errors -/
section
abbrev AlX : Type := Bool × He.AlD
def obsX (fa : List He.Fa) (fn : List He.DefD) (ex : Frag → Bool) (K : Frag) : AlX := (ex K, He.obsD fa fn K)
def obsXG (n : Nat) (fa : List He.Fa) (fn : List He.DefD) (ex : Frag → Bool) (g : Addr → Option Obj) : AlX := obsX fa fn ex (He.frG g (He.asD g n))
def hookX (n : Nat) (fa : List He.Fa) (fn : List He.DefD) (ex : Frag → Bool) : PySem.W.Hook where
  α := AlX
  obs := fun s => obsXG n fa fn ex s.heap.get?
  val := fun _ => (true, He.valD fn)
  says := fun _ h => ∃ K : Frag, K.In h ∧ obsX fa fn ex K = (true, He.valD fn)
  of := fun _ _ e => ⟨_, He.frG_in, e⟩
  keeps := fun _ _ _ ⟨K, hK, c⟩ k => ⟨K, PySem.W.Frag.In.keeps hK k, c⟩
theorem obsXG_eq {n : Nat} {fa : List He.Fa} {fn : List He.DefD} {ex : Frag → Bool} {g : Addr → Option Obj} {s : Shared} (h : ∀ a, g a = s.heap.get? a) : obsXG n fa fn ex g = (hookX n fa fn ex).obs s := by
  have e : g = s.heap.get? := funext h
  rw [e] <;> rfl
end
end Wk

set_option Elab.async false
set_option linter.all false
set_option maxRecDepth 100000
set_option maxHeartbeats 4000000
namespace Wk
open PySem PySem.Spec PyProof.Rows L2
section
variable {X : Cx} {Z : Fz} {sp : Spec X.K} {a b c e : Expr} {es : List Expr} {pos p p2 fp : Pos} {α β γ δ ρ θ : Type} {k j : Nat} {x : Str} {F F' H H' : Hp} {ad : List Addr} {σ : Sg} {Qr : ρ → Prop} {D : Ends} {st : Stmt} {st' rest body : List Stmt} {m : Res ρ} {t : Option Addr} {tg it : Expr}
/-- a new list handed in to be changed, looked at no more -/
theorem mst0 {ob : List (Ob X.K)} {en : Enc X.K α} : MSt ob [none] (obs1 en) (fun _ => ob) := by
  refine ⟨fun d => rfl, fun {Z ad ps F H G F' H' d} pk hob hg hst ho => ⟨fun i o hi => .inl ⟨hi, by simp⟩, fun p hp ha => ?_⟩⟩
  rcases pk_mem (o := none) pk p hp with ⟨k, h1, _⟩ | h
  · simp at h1
  · exact absurd h (hst p ha)
/-! ### a tuple of things alike, as a row -/
structure HomT {K : Frag} {γ α : Type} (r : VsE K γ) (en : Enc K α) (n : Nat) (f : γ → List α) : Prop where
  go : ∀ F vs g, r.rep F vs g → vs.length = n ∧ Reps en F vs (f g)
theorem hom1 {K : Frag} {en : Enc K α} : HomT (vs1 en) en 1 (fun a => [a]) := ⟨fun F vs g ⟨v, h, r⟩ => by
  subst h
  exact ⟨rfl, .cons r .nil⟩⟩
theorem homC {K : Frag} {en : Enc K α} {r : VsE K γ} {n : Nat} {f : γ → List α} (h : HomT r en n f) : HomT (vsC en r) en (n + 1) (fun g => g.1 :: f g.2) := ⟨fun F vs g ⟨v, ws, e, r1, r2⟩ => by
  subst e
  obtain ⟨h1, h2⟩ := h.go F ws g.2 r2
  exact ⟨by rw [List.length_cons, h1], .cons r1 h2⟩⟩
theorem ej_ttl {r : VsE X.K γ} {en : Enc X.K α} {n : Nat} {f : γ → List α} {m : Res γ} (hh : HomT r en n f) (h : EJ X Z sp e m (eT r)) (hz : Nat.ble n 1000 = true := by rfl) : EJ X Z sp e (m.bi fun g => .ok (f g)) (eTL en) := fun F ad σ H Q S hq =>
  h F ad σ H Q S (hq.bi.imp fun g q F' H' v n r => by
    obtain ⟨p, vs, rfl, h1, h2⟩ := r
    obtain ⟨k1, k2⟩ := hh.go F' vs g h2
    exact q F' H' (.ref p) n ⟨p, vs, rfl, h1, Nat.le_of_lt (small1000 (by have := Nat.le_of_ble_eq_true hz; omega)), k2⟩)
theorem ej_ttl_p {r : VsE X.K γ} {en : Enc X.K α} {n : Nat} {f : γ → List α} {g : γ} (hh : HomT r en n f) (h : EJ X Z sp e (.ok g) (eT r)) (hz : Nat.ble n 1000 = true := by rfl) : EJ X Z sp e (.ok (f g)) (eTL en) := ej_ttl hh h hz
/-- a tuple of any length, walked -/
theorem sj_tupl {en : Enc X.K α} {m : Res (List α)} (h : EJ X Z sp it m (eTL en)) : SJ X Z sp tg it m en := fun F ad σ H R S hm => by
  refine ofI (pi_tup pe_w) ?_
  refine h F ad σ H _ S (hm.imp fun xs q F1 H1 v n1 r1 => ?_)
  obtain ⟨p, vs, rfl, h1, hz, r1⟩ := r1
  refine ⟨p, rfl, ⟨vs, SqT.of (n1.fh _ _ h1)⟩, q F1 H1 _ n1 (by rw [← r1.length]; exact hz) fun i F' H' s f g => ?_⟩
  have hq : SqT X.K H' p vs := SqT.of (f _ _ (s _ _ h1))
  refine ⟨fun y hy => ?_, fun hl => ⟨vs, hq, by rw [r1.length]; exact hl⟩⟩
  obtain ⟨v, k1, k2⟩ := r1.get hy
  refine ⟨⟨vs, v, hq, k1⟩, fun x H'' yl => ?_⟩
  obtain ⟨rfl, k3⟩ := yl
  have e : v = x := Option.some.inj (k1.symm.trans (k3 vs hq))
  subst e
  exact ⟨F', ⟨Same.refl _, Same.refl _, f, fun _ h => .inl h⟩, en.mono s k2⟩
/-- its length, an item of it -/
theorem ej_lenTL {en : Enc X.K α} {m : Res (List α)} (hm : X.mg "len" = none) (h : EJ X Z sp a m (eTL en)) (hg : Gl X "len" := by rfl) (hn : nst a = true := by rfl) : EJ X Z sp (.Call (.Name "len" fp) [a] [] pos) (m.bi fun xs => .ok (xs.length : Int)) eI := fun F ad σ H Q S hq => by
  refine ofE (callB1 call_len_seq hg hm boot_len hn) ?_
  refine h F ad σ H _ S (hq.bi.imp fun xs q F1 H1 v n1 r1 => ?_)
  obtain ⟨p, vs, rfl, h1, hz, r1⟩ := r1
  refine ⟨p, vs, rfl, .inr (SqT.of (n1.fh _ _ h1)), ?_⟩
  rw [r1.length]
  exact q F1 H1 _ n1 rfl
theorem ej_lenTL_p {en : Enc X.K α} {xs : List α} (hm : X.mg "len" = none) (h : EJ X Z sp a (.ok xs) (eTL en)) (hg : Gl X "len" := by rfl) (hn : nst a = true := by rfl) : EJ X Z sp (.Call (.Name "len" fp) [a] [] pos) (.ok (xs.length : Int)) eI := ej_lenTL hm h hg hn
theorem ej_ixTL {en : Enc X.K α} {ml : Res (List α)} {mi : Res Int} (hl : EJ X Z sp a ml (eTL en)) (hi : EJ X Z sp b mi eI) (hs : PlainIx b := by intro _ _; rfl) : EJ X Z sp (.Subscript a b pos) (ml.bi fun xs => mi.bi fun i => geti xs i) en := fun F ad σ H Q S hm => by
  refine ofE (pe_ix ix_tup pe_w pe_w hs) ?_
  refine hl F ad σ H _ S (hm.bi.imp fun xs q F1 H1 v n1 r1 => ?_)
  obtain ⟨p, vs, rfl, h1, hz1, r1⟩ := r1
  refine hi F1 ad σ H1 _ (S.nx n1) (q.bi.imp fun i q F2 H2 u n2 r2 => ?_)
  obtain ⟨x, hx, q⟩ := q.geti
  obtain ⟨v, hv, rv⟩ := (r1.mono n2.ff).atI hx
  exact ⟨p, vs, i, v, rfl, r2, SqT.of (n2.hh _ _ (n1.fh _ _ h1)), hv, q F2 H2 v (n1.trans n2) rv⟩
theorem ej_ixTL_p {en : Enc X.K α} {xs : List α} {i : Int} (hl : EJ X Z sp a (.ok xs) (eTL en)) (hi : EJ X Z sp b (.ok i) eI) (hs : PlainIx b := by intro _ _; rfl) : EJ X Z sp (.Subscript a b pos) (geti xs i) en := ej_ixTL hl hi hs
end
end Wk

set_option Elab.async false
set_option linter.all false
set_option maxRecDepth 100000
set_option maxHeartbeats 4000000
namespace Wk
open PySem PySem.Spec PyProof.Rows L2

/-! ### things of ours that hold others -/
inductive Sh where
  | tup | lst | ins (C : Addr) (ns : List Str)
def Sh.is : Sh → HO → List V → Prop
  | .tup, o, vs => o = .tup vs
  | .lst, o, vs => o = .lst vs
  | .ins C ns, o, vs => ns.length = vs.length ∧ ∃ dx, o = .ins C dx (ns.zip vs)
inductive Fd (K : Frag) : Type 1 where
  | val {α : Type} (e : Enc K α) (a : α)
  | one {σ : Type} (e : OEnc K σ) (s : σ)
  | pk {σ : Type} (e : PkE K σ) (s : σ)
  | at (q : Addr)
section
variable {K : Frag} {α β γ δ : Type}
def lstE (e : Enc K α) : OEnc K (List α) := ⟨fun F o xs => ∃ us, o = .lst us ∧ us.length ≤ sizeLine ∧ Reps e F us xs, fun s ⟨us, h1, h2, h3⟩ => ⟨us, h1, h2, h3.mono s⟩⟩
@[reducible] def Fd.lst (e : Enc K α) (xs : List α) : Fd K := .one (lstE e) xs
inductive FdOk (F H : Hp) : List (Fd K) → List V → List Addr → Prop
  | nil : FdOk F H [] [] []
  | val {α : Type} {e : Enc K α} {a : α} {v : V} {fs : List (Fd K)} {vs : List V} {l : List Addr} (h : e.rep F v a) (r : FdOk F H fs vs l) : FdOk F H (.val e a :: fs) (v :: vs) l
  | one {σ : Type} {e : OEnc K σ} {s : σ} {q : Addr} {o : HO} {fs : List (Fd K)} {vs : List V} {l : List Addr} (h1 : H q = some o) (h2 : e.rep F o s) (r : FdOk F H fs vs l) : FdOk F H (.one e s :: fs) (.ref q :: vs) (q :: l)
  | pk {σ : Type} {e : PkE K σ} {s : σ} {q : Addr} {l1 : List Addr} {fs : List (Fd K)} {vs : List V} {l : List Addr} (h : e.rep F H l1 q s) (r : FdOk F H fs vs l) : FdOk F H (.pk e s :: fs) (.ref q :: vs) (q :: (l1 ++ l))
  | at {q : Addr} {fs : List (Fd K)} {vs : List V} {l : List Addr} (r : FdOk F H fs vs l) : FdOk F H (.at q :: fs) (.ref q :: vs) l
theorem FdOk.go {F F' H H' : Hp} {fs : List (Fd K)} {vs : List V} {l : List Addr} (h : FdOk F H fs vs l) (f : Same F F') (hl : ∀ q ∈ l, ∀ o, H q = some o → H' q = some o) : FdOk F' H' fs vs l := by
  induction h with
  | nil => exact .nil
  | val h r ih => exact .val (Enc.mono _ f h) (ih hl)
  | one h1 h2 r ih => exact .one (hl _ (List.mem_cons_self ..) _ h1) (OEnc.mono _ f h2) (ih fun q hq => hl q (List.mem_cons_of_mem _ hq))
  | pk h r ih => exact .pk (PkE.go _ f (fun q hq => hl q (List.mem_cons_of_mem _ (List.mem_append_left _ hq))) (hl _ (List.mem_cons_self ..)) h) (ih fun q hq => hl q (List.mem_cons_of_mem _ (List.mem_append_right _ hq)))
  | «at» r ih => exact .at (ih hl)
theorem FdOk.len {F H : Hp} {fs : List (Fd K)} {vs : List V} {l : List Addr} (h : FdOk F H fs vs l) : fs.length = vs.length := by
  induction h with
  | nil => rfl
  | val h r ih => rw [List.length_cons, List.length_cons, ih]
  | one h1 h2 r ih => rw [List.length_cons, List.length_cons, ih]
  | pk h r ih => rw [List.length_cons, List.length_cons, ih]
  | «at» r ih => rw [List.length_cons, List.length_cons, ih]
theorem FdOk.st {F H : Hp} {fs : List (Fd K)} {vs : List V} {l : List Addr} (h : FdOk F H fs vs l) {i : Nat} {q : Addr} {f : Fd K} (hi : fs[i]? = some f) : ∃ v, vs[i]? = some v := by
  have := (List.getElem?_eq_some_iff.mp hi).1
  rw [h.len] at this
  exact ⟨_, List.getElem?_eq_getElem this⟩
theorem FdOk.val_at {F H : Hp} {e : Enc K α} {a : α} {fs : List (Fd K)} {vs : List V} {l : List Addr} (h : FdOk F H fs vs l) : ∀ {i : Nat}, fs[i]? = some (.val e a) → ∃ v, vs[i]? = some v ∧ e.rep F v a := by
  induction h with
  | nil => intro i h; simp at h
  | val h r ih =>
    intro i hi
    cases i with
    | zero => cases hi; exact ⟨_, rfl, h⟩
    | succ i => exact ih (i := i) (by simpa using hi)
  | one h1 h2 r ih =>
    intro i hi
    cases i with
    | zero => cases hi
    | succ i => exact ih (i := i) (by simpa using hi)
  | pk h r ih =>
    intro i hi
    cases i with
    | zero => cases hi
    | succ i => exact ih (i := i) (by simpa using hi)
  | «at» r ih =>
    intro i hi
    cases i with
    | zero => cases hi
    | succ i => exact ih (i := i) (by simpa using hi)
theorem FdOk.one_at {F H : Hp} {e : OEnc K α} {a : α} {fs : List (Fd K)} {vs : List V} {l : List Addr} (h : FdOk F H fs vs l) : ∀ {i : Nat}, fs[i]? = some (.one e a) → ∃ q o, vs[i]? = some (.ref q) ∧ q ∈ l ∧ H q = some o ∧ e.rep F o a := by
  induction h with
  | nil => intro i h; simp at h
  | val h r ih =>
    intro i hi
    cases i with
    | zero => cases hi
    | succ i => exact ih (i := i) (by simpa using hi)
  | one h1 h2 r ih =>
    intro i hi
    cases i with
    | zero => cases hi; exact ⟨_, _, rfl, List.mem_cons_self .., h1, h2⟩
    | succ i =>
      obtain ⟨q, o, k1, k2, k3⟩ := ih (i := i) (by simpa using hi)
      exact ⟨q, o, by simpa using k1, List.mem_cons_of_mem _ k2, k3⟩
  | pk h r ih =>
    intro i hi
    cases i with
    | zero => cases hi
    | succ i =>
      obtain ⟨q, o, k1, k2, k3⟩ := ih (i := i) (by simpa using hi)
      exact ⟨q, o, by simpa using k1, List.mem_cons_of_mem _ (List.mem_append_right _ k2), k3⟩
  | «at» r ih =>
    intro i hi
    cases i with
    | zero => cases hi
    | succ i => exact ih (i := i) (by simpa using hi)
/-- one of the objects is changed -/
theorem FdOk.set_one {F H H' : Hp} {e : OEnc K α} {a : α} {e' : OEnc K β} {b : β} {q : Addr} {o' : HO} {fs : List (Fd K)} {vs : List V} {l : List Addr} (h : FdOk F H fs vs l) (ho : ∀ x, x ≠ q → H' x = H x) (hq : H' q = some o') (hr : e'.rep F o' b) :
    ∀ {i : Nat}, l.Nodup → fs[i]? = some (.one e a) → vs[i]? = some (.ref q) → FdOk F H' (fs.set i (.one e' b)) vs l := by
  induction h with
  | nil => intro i nd hi; simp at hi
  | val h r ih =>
    intro i nd hi hv
    cases i with
    | zero => cases hi
    | succ i => exact .val h (ih nd (by simpa using hi) (by simpa using hv))
  | one h1 h2 r ih =>
    intro i nd hi hv
    rw [List.nodup_cons] at nd
    cases i with
    | zero =>
      cases hv
      exact .one hq hr (r.go (Same.refl _) fun x hx o z => by rw [ho x (fun y => nd.1 (y ▸ hx))]; exact z)
    | succ i =>
      obtain ⟨q2, o2, k1, k2, _⟩ := r.one_at (i := i) (by simpa using hi)
      have hv' := by simpa using hv
      have e : q2 = q := by
        have := k1.symm.trans hv'
        cases this
        rfl
      subst e
      exact .one (by rw [ho _ fun z => nd.1 (by rw [z]; exact k2)]; exact h1) h2 (ih nd.2 (by simpa using hi) hv')
  | pk h r ih =>
    intro i nd hi hv
    cases i with
    | zero => cases hi
    | succ i =>
      obtain ⟨q2, o2, k1, k2, _⟩ := r.one_at (i := i) (by simpa using hi)
      have hv' := by simpa using hv
      have e : q2 = q := by
        have := k1.symm.trans hv'
        cases this
        rfl
      subst e
      rw [List.nodup_cons, List.nodup_append] at nd
      obtain ⟨n1, n2, n3, n4⟩ := nd
      refine .pk (PkE.go _ (Same.refl _) (fun x hx o z => by rw [ho x fun y => n4 x hx q2 k2 y]; exact z) (fun o z => by rw [ho _ fun y => n1 (List.mem_append_right _ (by rw [y]; exact k2))]; exact z) h) (ih n3 (by simpa using hi) hv')
  | «at» r ih =>
    intro i nd hi hv
    cases i with
    | zero => cases hi
    | succ i => exact .at (ih nd (by simpa using hi) (by simpa using hv))
/-- another object in the place of whatever stands there -/
theorem FdOk.put_one {F H : Hp} {e' : OEnc K β} {b : β} {q : Addr} {o' : HO} {fs : List (Fd K)} {vs : List V} {l : List Addr} (h : FdOk F H fs vs l) (hq : H q = some o') (hr : e'.rep F o' b) (hn : q ∉ l) :
    ∀ {i : Nat}, l.Nodup → i < fs.length → ∃ l', FdOk F H (fs.set i (.one e' b)) (vs.set i (.ref q)) l' ∧ l'.Nodup ∧ ∀ x ∈ l', x = q ∨ x ∈ l := by
  induction h with
  | nil => intro i nd hi; simp at hi
  | val h r ih =>
    intro i nd hi
    cases i with
    | zero => exact ⟨_, .one hq hr r, List.nodup_cons.mpr ⟨hn, nd⟩, fun x hx => List.mem_cons.mp hx⟩
    | succ i =>
      obtain ⟨l', k1, k2, k3⟩ := ih hn nd (by simpa using hi)
      exact ⟨l', .val h k1, k2, k3⟩
  | one h1 h2 r ih =>
    intro i nd hi
    rw [List.nodup_cons] at nd
    rw [List.mem_cons, not_or] at hn
    cases i with
    | zero => exact ⟨_, .one hq hr r, List.nodup_cons.mpr ⟨hn.2, nd.2⟩, fun x hx => (List.mem_cons.mp hx).imp id (List.mem_cons_of_mem _)⟩
    | succ i =>
      obtain ⟨l', k1, k2, k3⟩ := ih hn.2 nd.2 (by simpa using hi)
      refine ⟨_, .one h1 h2 k1, List.nodup_cons.mpr ⟨fun z => ?_, k2⟩, fun x hx => ?_⟩
      · rcases k3 _ z with z | z
        · exact hn.1 z.symm
        · exact nd.1 z
      · rcases List.mem_cons.mp hx with rfl | hx
        · exact .inr (List.mem_cons_self ..)
        · exact (k3 x hx).imp id (List.mem_cons_of_mem _)
  | pk h r ih =>
    intro i nd hi
    rw [List.nodup_cons, List.nodup_append] at nd
    obtain ⟨n1, n2, n3, n4⟩ := nd
    rw [List.mem_cons, not_or, List.mem_append, not_or] at hn
    cases i with
    | zero => exact ⟨_, .one hq hr r, List.nodup_cons.mpr ⟨hn.2.2, n3⟩, fun x hx => (List.mem_cons.mp hx).imp id fun z => List.mem_cons_of_mem _ (List.mem_append_right _ z)⟩
    | succ i =>
      obtain ⟨l', k1, k2, k3⟩ := ih hn.2.2 n3 (by simpa using hi)
      refine ⟨_, .pk h k1, ?_, fun x hx => ?_⟩
      · rw [List.nodup_cons, List.nodup_append]
        refine ⟨fun z => ?_, n2, k2, fun x hx y hy e => ?_⟩
        · rcases List.mem_append.mp z with z | z
          · exact n1 (List.mem_append_left _ z)
          · rcases k3 _ z with z | z
            · exact hn.1 z.symm
            · exact n1 (List.mem_append_right _ z)
        · rcases k3 _ hy with z | z
          · exact hn.2.1 (by rw [← z, ← e]; exact hx)
          · exact n4 x hx y z e
      · rcases List.mem_cons.mp hx with rfl | hx
        · exact .inr (List.mem_cons_self ..)
        · rcases List.mem_append.mp hx with hx | hx
          · exact .inr (List.mem_cons_of_mem _ (List.mem_append_left _ hx))
          · exact (k3 x hx).imp id fun z => List.mem_cons_of_mem _ (List.mem_append_right _ z)
  | «at» r ih =>
    intro i nd hi
    cases i with
    | zero => exact ⟨_, .one hq hr r, List.nodup_cons.mpr ⟨hn, nd⟩, fun x hx => List.mem_cons.mp hx⟩
    | succ i =>
      obtain ⟨l', k1, k2, k3⟩ := ih hn nd (by simpa using hi)
      exact ⟨l', .at k1, k2, k3⟩
/-- a value in the place of whatever stands there -/
theorem FdOk.put_val {F H : Hp} {e' : Enc K β} {b : β} {v : V} {fs : List (Fd K)} {vs : List V} {l : List Addr} (h : FdOk F H fs vs l) (hr : e'.rep F v b) :
    ∀ {i : Nat}, l.Nodup → i < fs.length → ∃ l', FdOk F H (fs.set i (.val e' b)) (vs.set i v) l' ∧ l'.Nodup ∧ ∀ x ∈ l', x ∈ l := by
  induction h with
  | nil => intro i nd hi; simp at hi
  | val h r ih =>
    intro i nd hi
    cases i with
    | zero => exact ⟨_, .val hr r, nd, fun x hx => hx⟩
    | succ i =>
      obtain ⟨l', k1, k2, k3⟩ := ih nd (by simpa using hi)
      exact ⟨l', .val h k1, k2, k3⟩
  | one h1 h2 r ih =>
    intro i nd hi
    rw [List.nodup_cons] at nd
    cases i with
    | zero => exact ⟨_, .val hr r, nd.2, fun x hx => List.mem_cons_of_mem _ hx⟩
    | succ i =>
      obtain ⟨l', k1, k2, k3⟩ := ih nd.2 (by simpa using hi)
      refine ⟨_, .one h1 h2 k1, List.nodup_cons.mpr ⟨fun z => nd.1 (k3 _ z), k2⟩, fun x hx => ?_⟩
      rcases List.mem_cons.mp hx with rfl | hx
      · exact List.mem_cons_self ..
      · exact List.mem_cons_of_mem _ (k3 x hx)
  | pk h r ih =>
    intro i nd hi
    rw [List.nodup_cons, List.nodup_append] at nd
    obtain ⟨n1, n2, n3, n4⟩ := nd
    cases i with
    | zero => exact ⟨_, .val hr r, n3, fun x hx => List.mem_cons_of_mem _ (List.mem_append_right _ hx)⟩
    | succ i =>
      obtain ⟨l', k1, k2, k3⟩ := ih n3 (by simpa using hi)
      refine ⟨_, .pk h k1, ?_, fun x hx => ?_⟩
      · rw [List.nodup_cons, List.nodup_append]
        refine ⟨fun z => ?_, n2, k2, fun x hx y hy e => n4 x hx y (k3 _ hy) e⟩
        rcases List.mem_append.mp z with z | z
        · exact n1 (List.mem_append_left _ z)
        · exact n1 (List.mem_append_right _ (k3 _ z))
      · rcases List.mem_cons.mp hx with rfl | hx
        · exact List.mem_cons_self ..
        · rcases List.mem_append.mp hx with hx | hx
          · exact List.mem_cons_of_mem _ (List.mem_append_left _ hx)
          · exact List.mem_cons_of_mem _ (List.mem_append_right _ (k3 x hx))
  | «at» r ih =>
    intro i nd hi
    cases i with
    | zero => exact ⟨_, .val hr r, nd, fun x hx => hx⟩
    | succ i =>
      obtain ⟨l', k1, k2, k3⟩ := ih nd (by simpa using hi)
      exact ⟨l', .at k1, k2, k3⟩
/-- how a state is shown by fields -/
abbrev Vw (K : Frag) (γ : Type) := γ → List (Fd K)
def fV (e : Enc K α) : α → Fd K := fun a => .val e a
def fL (e : Enc K α) : List α → Fd K := fun a => .lst e a
def fP (e : PkE K α) : α → Fd K := fun a => .pk e a
def vw1 (f : α → Fd K) : Vw K α := fun a => [f a]
def vwC (f : α → Fd K) (r : Vw K γ) : Vw K (α × γ) := fun g => f g.1 :: r g.2
def pkI (sh : Sh) (vw : Vw K γ) : PkE K γ := ⟨fun F H l p s => ∃ o vs, H p = some o ∧ sh.is o vs ∧ FdOk F H (vw s) vs l, fun f hl hp ⟨o, vs, h1, h2, h3⟩ => ⟨o, vs, hp _ h1, h2, h3.go f hl⟩, fun ⟨o, vs, h1, _⟩ z => by rw [h1] at z; cases z⟩
/-! ### what stays from here on -/
def FzE (E : PkE K γ) (e : Enc K γ) : Prop := ∀ F H F' l p s, E.rep F H l p s → Same F F' → F' p = H p → (∀ q ∈ l, F' q = H q) → e.rep F' (.ref p) s
def FzF (f : α → Fd K) (e : Enc K α) : Prop := ∀ F H F' v l a fs vs, FdOk F H (f a :: fs) (v :: vs) l → Same F F' → (∀ q ∈ l, F' q = H q) → e.rep F' v a ∧ ∃ l', FdOk F H fs vs l' ∧ ∀ q ∈ l', q ∈ l
def FzV (vw : Vw K γ) (r : VsE K γ) : Prop := ∀ F H F' vs l s, FdOk F H (vw s) vs l → Same F F' → (∀ q ∈ l, F' q = H q) → r.rep F' vs s
theorem fzV {e : Enc K α} : FzF (fV e) e := fun F H F' v l a fs vs h f hl => by
  cases h with
  | val h r => exact ⟨e.mono f h, _, r, fun _ h => h⟩
theorem fzL {e : Enc K α} : FzF (fL e) (eL e) := fun F H F' v l a fs vs h f hl => by
  cases h with
  | one h1 h2 r =>
    obtain ⟨us, k1, k2, k3⟩ := h2
    subst k1
    exact ⟨⟨_, us, rfl, by rw [hl _ (List.mem_cons_self ..)]; exact h1, k2, k3.mono f⟩, _, r, fun _ h => List.mem_cons_of_mem _ h⟩
theorem fzP {E : PkE K α} {e : Enc K α} (z : FzE E e) : FzF (fP E) e := fun F H F' v l a fs vs h f hl => by
  cases h with
  | pk h r => exact ⟨z F H F' _ _ _ h f (hl _ (List.mem_cons_self ..)) fun q hq => hl q (List.mem_cons_of_mem _ (List.mem_append_left _ hq)), _, r, fun _ h => List.mem_cons_of_mem _ (List.mem_append_right _ h)⟩
theorem fz1 {f : α → Fd K} {e : Enc K α} (z : FzF f e) : FzV (vw1 f) (vs1 e) := fun F H F' vs l s h s1 hl => by
  have hlen := h.len
  cases vs with
  | nil => cases hlen
  | cons v vs =>
    obtain ⟨k1, l', k2, _⟩ := z F H F' v l s [] vs h s1 hl
    cases k2
    exact ⟨v, rfl, k1⟩
theorem fzC {f : α → Fd K} {e : Enc K α} {vw : Vw K γ} {r : VsE K γ} (z : FzF f e) (zs : FzV vw r) : FzV (vwC f vw) (vsC e r) := fun F H F' vs l s h s1 hl => by
  have hlen := h.len
  cases vs with
  | nil => cases hlen
  | cons v vs =>
    obtain ⟨k1, l', k2, k3⟩ := z F H F' v l s.1 (vw s.2) vs h s1 hl
    exact ⟨v, vs, rfl, k1, zs F H F' vs l' s.2 k2 s1 fun q hq => hl q (k3 q hq)⟩
theorem fzT {vw : Vw K γ} {r : VsE K γ} (z : FzV vw r) : FzE (pkI .tup vw) (eT r) := fun F H F' l p s ⟨o, vs, h1, h2, h3⟩ f hp hl => by
  have h2 : o = .tup vs := h2
  subst h2
  exact ⟨p, vs, rfl, by rw [hp]; exact h1, z F H F' vs l s h3 f hl⟩
theorem fzH {vw : Vw K γ} {r : VsE K γ} (z : FzV vw r) : FzE (pkI .lst vw) (eH r) := fun F H F' l p s ⟨o, vs, h1, h2, h3⟩ f hp hl => by
  have h2 : o = .lst vs := h2
  subst h2
  exact ⟨p, vs, rfl, by rw [hp]; exact h1, z F H F' vs l s h3 f hl⟩
/-- an instance that stays -/
def eIns (C : Addr) (ns : List Str) (r : VsE K γ) : Enc K γ := ⟨fun F v g => ∃ p vs dx, v = .ref p ∧ ns.length = vs.length ∧ F p = some (.ins C dx (ns.zip vs)) ∧ r.rep F vs g, fun {F F' v a} s h => by
  obtain ⟨p, vs, dx, h1, hl, h2, h3⟩ := h
  exact ⟨p, vs, dx, h1, hl, s _ _ h2, r.mono s h3⟩⟩
theorem fzI {C : Addr} {ns : List Str} {vw : Vw K γ} {r : VsE K γ} (z : FzV vw r) : FzE (pkI (.ins C ns) vw) (eIns C ns r) := fun F H F' l p s ⟨o, vs, h1, h2, h3⟩ f hp hl => by
  obtain ⟨hl2, dx, h2⟩ := h2
  subst h2
  exact ⟨p, vs, dx, rfl, hl2, by rw [hp]; exact h1, z F H F' vs l s h3 f hl⟩
theorem fzLL_go {e : Enc K α} {F H F' : Hp} (f : Same F F') : ∀ {l : List Addr} {xss : List (List α)}, (∀ q ∈ l, F' q = H q) → Paired (fun q xs => ∃ vs, H q = some (.lst vs) ∧ vs.length ≤ sizeLine ∧ Reps e F vs xs) l xss → Reps (eL e) F' (l.map V.ref) xss
  | _, _, _, .nil => .nil
  | _, _, hl, .cons ⟨vs, z1, z2, z3⟩ r => .cons ⟨_, vs, rfl, by rw [hl _ (List.mem_cons_self ..)]; exact z1, z2, z3.mono f⟩ (fzLL_go f (fun q hq => hl q (List.mem_cons_of_mem _ hq)) r)
theorem fzLL {e : Enc K α} : FzE (pkLL e) (eL (eL e)) := fun F H F' l p s ⟨h1, h2, h3⟩ f hp hl =>
  ⟨p, l.map V.ref, rfl, by rw [hp]; exact h1, by rw [List.length_map]; exact h2, fzLL_go f hl h3⟩
end
section
variable {X : Cx} {Z : Fz} {sp : Spec X.K} {a b c e : Expr} {es : List Expr} {pos p p2 fp : Pos} {α β γ δ ρ θ : Type} {k j : Nat} {x : Str} {F F' H H' : Hp} {ad : List Addr} {σ : Sg} {Qr : ρ → Prop} {D : Ends} {st : Stmt} {st' rest body : List Stmt} {m : Res ρ} {t : Option Addr} {tg it : Expr}
/-- such a thing is changed, or becomes another -/
theorem SOk.pkset {K : Frag} {sp : Spec K} {E : PkE K α} {s : α} {o : Nat} {q0 : Addr} {L : Nat → List Addr} {l' : List Addr} (S : SOk Z F ad sp σ H) (W : LfW Z.G F H ad sp.ob L) (hp : ad[o]? = some q0) (hF : F q0 = none) (hG : Z.G q0 = none) (hol : o < sp.ob.length)
    (ha : ∀ a, a ≠ q0 → a ∉ l' → H' a = H a) (hb : ∀ q ∈ l', F q = none ∧ Z.G q = none ∧ q ∉ ad ∧ H' q ≠ none ∧ ∀ k, k ≠ o → q ∉ L k) (hn : l'.Nodup) (hd : pkOk Z.G F H' t E l' s q0) : SOk Z F ad ⟨sp.sl, sp.ob.set o (.pk t E s)⟩ σ H' := by
  have keep : ∀ a, F a ≠ none ∨ Z.G a ≠ none → H' a = H a := fun a h => ha a (fun z => by subst z; rcases h with h | h; exact h hF; exact h hG) fun z => by
    rcases h with h | h
    · exact h (hb a z).1
    · exact h (hb a z).2.1
  have others : ∀ (k : Nat) (p : Addr), k ≠ o → ad[k]? = some p → p ≠ q0 ∧ p ∉ l' := fun k p hk hkp => ⟨fun z => by
    subst z
    have l1 := getElem?_some_of hkp
    have l2 := getElem?_some_of hp
    rw [List.getElem?_eq_getElem l1] at hkp
    rw [List.getElem?_eq_getElem l2] at hp
    exact hk ((List.getElem_inj S.nd).mp ((Option.some.inj hkp).trans (Option.some.inj hp).symm)), fun z => (hb p z).2.2.1 (List.mem_of_getElem? hkp)⟩
  refine ⟨S.f0, fun a o h => ?_, fun a o h => ?_, S.fg, S.nd, fun a h => ?_, S.len, S.sl, by simp [S.olen], fun k ob h => ?_, ⟨fun k => if k = o then l' else L k, fun k q hq => ?_, fun k q hq k' hq' => ?_, fun k => ?_, fun k α' t' e' xs' h => ?_⟩⟩
  · rw [keep a (.inl (by rw [h]; exact fun z => nomatch z))]
    exact S.fh _ _ h
  · rw [keep a (.inr (by rw [h]; exact fun z => nomatch z))]
    exact S.gh _ _ h
  · by_cases e : a = q0
    · rw [e]
      exact E.st hd.1
    · rw [ha a e fun z => (hb a z).2.2.1 h]
      exact S.st a h
  · have h : (sp.ob.set o (.pk t E s))[k]? = some ob := h
    by_cases e : k = o
    · subst e
      rw [List.getElem?_set_self hol] at h
      cases h
      exact ⟨q0, hp, trivial⟩
    · rw [List.getElem?_set_ne (Ne.symm e)] at h
      obtain ⟨p, h1, h2⟩ := S.ob k ob h
      refine ⟨p, h1, ?_⟩
      obtain ⟨n1, n2⟩ := others k p e h1
      cases ob with
      | dead => trivial
      | pk _ _ _ => trivial
      | gen t' e' ys =>
        obtain ⟨ws, g1, g2⟩ := h2
        exact ⟨ws, by rw [ha p n1 n2]; exact g1, g2⟩
      | lst t' e' ys =>
        obtain ⟨ws, g1, g2⟩ := h2
        exact ⟨ws, by rw [ha p n1 n2]; exact g1, g2⟩
  · have hq : q ∈ (if k = o then l' else L k) := hq
    by_cases e : k = o
    · rw [if_pos e] at hq
      obtain ⟨a, b, c, d, _⟩ := hb q hq
      exact ⟨c, a, b, d⟩
    · rw [if_neg e] at hq
      obtain ⟨a, b, c, d⟩ := W.di k q hq
      refine ⟨a, b, c, ?_⟩
      rw [ha q (fun z => by subst z; exact a (List.mem_of_getElem? hp)) fun z => (hb q z).2.2.2.2 k e hq]
      exact d
  · have hq : q ∈ (if k = o then l' else L k) := hq
    have hq' : q ∈ (if k' = o then l' else L k') := hq'
    by_cases e : k = o
    · rw [if_pos e] at hq
      by_cases e' : k' = o
      · rw [e, e']
      · rw [if_neg e'] at hq'
        exact absurd hq' ((hb q hq).2.2.2.2 k' e')
    · rw [if_neg e] at hq
      by_cases e' : k' = o
      · rw [if_pos e'] at hq'
        exact absurd hq ((hb q hq').2.2.2.2 k e)
      · rw [if_neg e'] at hq'
        exact W.un k q hq k' hq'
  · show (if k = o then l' else L k).Nodup
    split
    · exact hn
    · exact W.nd k
  · have h : (sp.ob.set o (.pk t E s))[k]? = some (.pk t' e' xs') := h
    by_cases e : k = o
    · subst e
      rw [List.getElem?_set_self hol] at h
      cases h
      refine ⟨q0, hp, ?_⟩
      show pkOk _ _ _ _ _ (if k = k then l' else L k) _ _
      rw [if_pos rfl]
      exact hd
    · rw [List.getElem?_set_ne (Ne.symm e)] at h
      obtain ⟨p, h1, h2⟩ := W.ok k α' t' e' xs' h
      obtain ⟨n1, n2⟩ := others k p e h1
      refine ⟨p, h1, ?_⟩
      show pkOk _ _ _ _ _ (if k = o then l' else L k) _ _
      rw [if_neg e]
      exact h2.go (Same.refl _) (fun q hq o z => by rw [ha q (fun y => by subst y; exact (W.di k q hq).1 (List.mem_of_getElem? hp)) fun y => (hb q y).2.2.2.2 k e hq]; exact z) (fun o z => by rw [ha p n1 n2]; exact z) h2.2.1
theorem SOk.pk {E : PkE X.K α} {s : α} {o : Nat} (S : SOk Z F ad sp σ H) (ho : sp.ob[o]? = some (.pk t E s)) : ∃ q L, ad[o]? = some q ∧ LfW Z.G F H ad sp.ob L ∧ pkOk Z.G F H t E (L o) s q := by
  obtain ⟨L, W⟩ := S.lf
  obtain ⟨p, h4, h5⟩ := W.ok o α t E s ho
  exact ⟨p, L, h4, W, h5⟩
/-- it stays as it is from here on -/
def thawV {K : Frag} {α : Type} (k : Nat) (en : Enc K α) (x : α) : Sl K → Sl K
  | .own j => match Nat.beq j k with
    | true => .val en x
    | false => .own j
  | s => s
theorem SOk.frzPkL {K : Frag} {sp : Spec K} {E : PkE K α} {en : Enc K α} {s : α} (fz : FzE E en) (S : SOk Z F ad sp σ H) (ho : sp.ob[k]? = some (.pk t E s)) : ∃ F' l p, E.rep F H l p s ∧ (∀ a o, F' a = some o → F a = some o ∨ ((a = p ∨ a ∈ l) ∧ H a = some o)) ∧ SOk Z F' ad ⟨sp.sl.map (thawV k en s), sp.ob.set k .dead⟩ σ H := by
  obtain ⟨L, W⟩ := S.lf
  obtain ⟨p, hp, k1, k4, k5, k6⟩ := W.ok k _ t E s ho
  let F' : Hp := fun a => if a = p ∨ a ∈ L k then H a else F a
  have ff : Same F F' := fun a o h => by
    show (if a = p ∨ a ∈ L k then H a else F a) = some o
    split
    · exact S.fh _ _ h
    · exact h
  have ffp : F' p = H p := if_pos (.inl rfl)
  have ffl : ∀ q ∈ L k, F' q = H q := fun q hq => if_pos (.inr hq)
  have ffo : ∀ a, a ≠ p → a ∉ L k → F' a = F a := fun a h1 h2 => if_neg (by rintro (z | z); exact h1 z; exact h2 z)
  have rep : en.rep F' (.ref p) s := fz F H F' (L k) p s k1 ff ffp ffl
  have others : ∀ (i : Nat) (q : Addr), i ≠ k → ad[i]? = some q → q ≠ p ∧ q ∉ L k := fun i q hi hq => ⟨fun z => by
    subst z
    have l1 := getElem?_some_of hq
    have l2 := getElem?_some_of hp
    rw [List.getElem?_eq_getElem l1] at hq
    rw [List.getElem?_eq_getElem l2] at hp
    exact hi ((List.getElem_inj S.nd).mp ((Option.some.inj hq).trans (Option.some.inj hp).symm)), fun z => (W.di k q z).1 (List.mem_of_getElem? hq)⟩
  refine ⟨F', L k, p, k1, fun a o h => ?_, S.f0.trans ff, fun a o h => ?_, S.gh, fun a h => ?_, S.nd, S.st, by simp [S.len], fun i s1 h => ?_, by simp [S.olen], fun i o h => ?_, ⟨fun i => if i = k then [] else L i, fun i q hq => ?_, fun i q hq i' hq' => ?_, fun i => ?_, fun i α' t' e' xs' h => ?_⟩⟩
  · have h : (if a = p ∨ a ∈ L k then H a else F a) = some o := h
    split at h
    · rename_i z
      exact .inr ⟨z, h⟩
    · exact .inl h
  · have h : (if a = p ∨ a ∈ L k then H a else F a) = some o := h
    split at h
    · exact h
    · exact S.fh _ _ h
  · by_cases z : a = p ∨ a ∈ L k
    · rcases z with z | z
      · subst z; exact .inr k5
      · exact .inr (W.di k a z).2.2.1
    · refine S.fg a ?_
      have : F' a = F a := if_neg z
      rw [this] at h
      exact h
  · have h : (sp.sl.map (thawV k en s))[i]? = some s1 := h
    rw [List.getElem?_map] at h
    cases q : sp.sl[i]? with
    | none => rw [q] at h; cases h
    | some s0 =>
      rw [q] at h
      have e : thawV k en s s0 = s1 := Option.some.inj h
      subst e
      obtain ⟨o, g1, g2⟩ := S.sl i s0 q
      refine ⟨o, g1, ?_⟩
      cases s0 with
      | any => trivial
      | val e a => exact slOk.mono (s := .val e a) ff g2
      | bor e a => exact slOk.mono (s := .bor e a) ff g2
      | own j =>
        show slOk _ _ _ (match Nat.beq j k with
          | true => .val en s
          | false => .own j) _
        cases q : Nat.beq j k with
        | false => exact g2
        | true =>
          have e : j = k := Nat.eq_of_beq_eq_true q
          subst e
          obtain ⟨p', h1, h2⟩ := g2
          rw [hp] at h1
          have e : p = p' := Option.some.inj h1
          subst e
          exact ⟨.ref p, h2, rep⟩
  · have h : (sp.ob.set k .dead)[i]? = some o := h
    by_cases e : i = k
    · subst e
      rw [List.getElem?_set_self (getElem?_some_of ho)] at h
      cases h
      exact ⟨p, hp, trivial⟩
    · rw [List.getElem?_set_ne (Ne.symm e)] at h
      obtain ⟨p', g1, g2⟩ := S.ob i o h
      refine ⟨p', g1, ?_⟩
      obtain ⟨n1, n2⟩ := others i p' e g1
      cases o with
      | dead => trivial
      | pk _ _ _ => trivial
      | gen t' e' ys =>
        obtain ⟨us, z1, z2, z3, z4⟩ := g2
        exact ⟨us, z1, e'.mono ff z2, by rw [ffo p' n1 n2]; exact z3, z4⟩
      | lst t' e' ys =>
        obtain ⟨us, z1, zz, z2, z3, z4⟩ := g2
        exact ⟨us, z1, zz, z2.mono ff, by rw [ffo p' n1 n2]; exact z3, z4⟩
  · have hq : q ∈ (if i = k then [] else L i) := hq
    by_cases e : i = k
    · rw [if_pos e] at hq; cases hq
    · rw [if_neg e] at hq
      obtain ⟨a, b, c, d⟩ := W.di i q hq
      refine ⟨a, ?_, c, d⟩
      rw [ffo q (fun z => by subst z; exact a (List.mem_of_getElem? hp)) fun z => e (W.un i q hq k z).symm]
      exact b
  · have hq : q ∈ (if i = k then [] else L i) := hq
    have hq' : q ∈ (if i' = k then [] else L i') := hq'
    by_cases e : i = k
    · rw [if_pos e] at hq; cases hq
    · by_cases e' : i' = k
      · rw [if_pos e'] at hq'; cases hq'
      · rw [if_neg e] at hq
        rw [if_neg e'] at hq'
        exact W.un i q hq i' hq'
  · show (if i = k then [] else L i).Nodup
    split
    · exact List.nodup_nil
    · exact W.nd i
  · have h : (sp.ob.set k .dead)[i]? = some (.pk t' e' xs') := h
    by_cases e : i = k
    · subst e
      rw [List.getElem?_set_self (getElem?_some_of ho)] at h
      cases h
    · rw [List.getElem?_set_ne (Ne.symm e)] at h
      obtain ⟨p', h1, h2⟩ := W.ok i α' t' e' xs' h
      obtain ⟨n1, n2⟩ := others i p' e h1
      refine ⟨p', h1, ?_⟩
      show pkOk _ _ _ _ _ (if i = k then [] else L i) _ _
      rw [if_neg e]
      exact h2.go ff (fun _ _ _ z => z) (fun _ z => z) (by rw [ffo p' n1 n2]; exact h2.2.1)
theorem SOk.frzPk {K : Frag} {sp : Spec K} {E : PkE K α} {en : Enc K α} {s : α} (fz : FzE E en) (S : SOk Z F ad sp σ H) (ho : sp.ob[k]? = some (.pk t E s)) : ∃ F', SOk Z F' ad ⟨sp.sl.map (thawV k en s), sp.ob.set k .dead⟩ σ H :=
  let ⟨F', _, _, _, _, S'⟩ := S.frzPkL fz ho
  ⟨F', S'⟩
theorem bj_frzPk {E : PkE X.K α} {en : Enc X.K α} {s : α} (fz : FzE E en) (ho : sp.ob[k]? = some (.pk t E s)) (hr : BJ X Z Qr D ⟨sp.sl.map (thawV k en s), sp.ob.set k .dead⟩ st' m) : BJ X Z Qr D sp st' m := fun F ad σ H S hm =>
  let ⟨F', S'⟩ := S.frzPk fz ho
  hr F' ad σ H S' hm
/-! ### as if it stayed, for a while -/
structure Fr {K : Frag} (sp sp' : Spec K) : Prop where
  go : ∀ (Z : Fz) (F : Hp) (ad : List Addr) (σ : Sg) (H : Hp), SOk Z F ad sp σ H → ∃ F', SOk Z F' ad sp' σ H ∧ Same F F'
theorem SOk.frz' {en : Enc X.K α} {xs : List α} (S : SOk Z F ad sp σ H) (ho : sp.ob[k]? = some (.lst t en xs)) : ∃ F', SOk Z F' ad ⟨sp.sl.map (thaw k en xs), sp.ob.set k .dead⟩ σ H ∧ Same F F' := by
  obtain ⟨zx, S1⟩ := S.fwd
  obtain ⟨F', S2⟩ := S1.frz ho
  exact ⟨F', S2.back zx, S2.f0⟩
theorem SOk.frzPk' {E : PkE X.K α} {en : Enc X.K α} {s : α} (fz : FzE E en) (S : SOk Z F ad sp σ H) (ho : sp.ob[k]? = some (.pk t E s)) : ∃ F', SOk Z F' ad ⟨sp.sl.map (thawV k en s), sp.ob.set k .dead⟩ σ H ∧ Same F F' := by
  obtain ⟨zx, S1⟩ := S.fwd
  obtain ⟨F', S2⟩ := S1.frzPk fz ho
  exact ⟨F', S2.back zx, S2.f0⟩
theorem fr_refl {K : Frag} {sp : Spec K} : Fr sp sp := ⟨fun Z F ad σ H S => ⟨F, S, Same.refl _⟩⟩
theorem fr_lst {sp' : Spec X.K} {en : Enc X.K α} {xs : List α} (k : Nat) (ho : sp.ob[k]? = some (.lst t en xs)) (r : Fr ⟨sp.sl.map (thaw k en xs), sp.ob.set k .dead⟩ sp') : Fr sp sp' := ⟨fun Z F ad σ H S => by
  obtain ⟨F1, S1, f1⟩ := S.frz' ho
  obtain ⟨F2, S2, f2⟩ := r.go Z F1 ad σ H S1
  exact ⟨F2, S2, f1.trans f2⟩⟩
theorem fr_pk {sp' : Spec X.K} {E : PkE X.K α} {en : Enc X.K α} {s : α} (k : Nat) (fz : FzE E en) (ho : sp.ob[k]? = some (.pk t E s)) (r : Fr ⟨sp.sl.map (thawV k en s), sp.ob.set k .dead⟩ sp') : Fr sp sp' := ⟨fun Z F ad σ H S => by
  obtain ⟨F1, S1, f1⟩ := S.frzPk' fz ho
  obtain ⟨F2, S2, f2⟩ := r.go Z F1 ad σ H S1
  exact ⟨F2, S2, f1.trans f2⟩⟩
/-- data that lies in no object -/
def PureE {K : Frag} (e : Enc K α) : Prop := ∀ F F' v a, e.rep F v a → e.rep F' v a
theorem puI {K : Frag} : PureE (eI (K := K)) := fun _ _ _ _ h => h
theorem puB {K : Frag} : PureE (eB (K := K)) := fun _ _ _ _ h => h
theorem puS {K : Frag} : PureE (eS (K := K)) := fun _ _ _ _ h => h
theorem puU {K : Frag} : PureE (eU (K := K)) := fun _ _ _ _ h => h
theorem puO {K : Frag} {e : Enc K α} (h : PureE e) : PureE (eO e) := fun F F' v a r => by
  cases a with
  | none => exact r
  | some a => exact h F F' v a r
theorem Nx.less {F1 : Hp} (n : Nx F1 H F' H') (f : Same F F1) (h : Same F H) : Nx F H F H' := ⟨Same.refl _, n.hh, h.trans n.hh, fun _ h => .inl h⟩
theorem tj_tmp {sp' : Spec X.K} {m : Res Bool} (fr : Fr sp sp') (h : TJ X Z sp' e m) : TJ X Z sp e m := fun F ad σ H Q S hm => by
  obtain ⟨F1, S1, f1⟩ := fr.go Z F ad σ H S
  exact h F1 ad σ H Q S1 (hm.imp fun b q F' H' n => q F H' (n.less f1 S.fh))
theorem ej_tmp {sp' : Spec X.K} {en : Enc X.K α} {m : Res α} (fr : Fr sp sp') (pu : PureE en) (h : EJ X Z sp' e m en) : EJ X Z sp e m en := fun F ad σ H Q S hm => by
  obtain ⟨F1, S1, f1⟩ := fr.go Z F ad σ H S
  exact h F1 ad σ H Q S1 (hm.imp fun b q F' H' v n r => q F H' v (n.less f1 S.fh) (pu _ _ _ _ r))
theorem fj_tmp {sp' : Spec X.K} {en : Enc X.K α} {m : Res (List α)} (fr : Fr sp sp') (pu : PureE en) (h : FJ X Z sp' e m en) : FJ X Z sp e m en := fun F ad σ H Q S hm => by
  obtain ⟨F1, S1, f1⟩ := fr.go Z F ad σ H S
  refine h F1 ad σ H Q S1 (hm.imp fun b q F' H' p vs n h1 h2 h3 hz r => q F H' p vs (n.less f1 S.fh) h1 ?_ h3 hz (Paired.imp (fun v a z => pu _ _ _ _ z) r))
  cases e : F p with
  | none => rfl
  | some o => rw [S.fh _ _ e] at h1; cases h1
end
end Wk

set_option Elab.async false
set_option linter.all false
set_option maxRecDepth 100000
set_option maxHeartbeats 4000000
namespace Wk
open PySem PySem.Spec PyProof.Rows L2
section
variable {X : Cx} {Z : Fz} {sp : Spec X.K} {a b c e : Expr} {es : List Expr} {pos p p2 fp : Pos} {α β γ δ ρ θ : Type} {k j : Nat} {x : Str} {F F' H H' : Hp} {ad : List Addr} {σ : Sg} {Qr : ρ → Prop} {D : Ends} {st : Stmt} {st' rest body : List Stmt} {m : Res ρ} {t : Option Addr} {tg it : Expr}
/-! ### the fields, read -/
/-- an expression that gives the i-th field of what stands at o -/
def PJ (X : Cx) (Z : Fz) (sp : Spec X.K) (e : Expr) (sh : Sh) (o i : Nat) : Prop :=
  ∀ (F : Hp) (ad : List Addr) (σ : Sg) (H : Hp) (Q : VK), SOk Z F ad sp σ H → (∀ q0 hd vs, ad[o]? = some q0 → H q0 = some hd → sh.is hd vs → ∃ v, vs[i]? = some v ∧ Q v H) → (∃ q0 hd vs, ad[o]? = some q0 ∧ H q0 = some hd ∧ sh.is hd vs) → wE X e σ H Q
theorem pj_tup {i o : Nat} (n : Nat) {jj : Nat} (hs : sp.sl[i]? = some (.own o) := by rfl) (hN : X.N[i]? = some x := by rfl)
    (hv : Vis X.env.scope x := by first | exact Or.inl rfl | exact Or.inr (Or.inl rfl) | exact Or.inr (Or.inr rfl)) (hd : (x == ("__debug__" : Str)) = false := by decide) (hcd : (x == ("__classdict__" : Str)) = false := by decide) :
    PJ X Z sp (.Subscript (.Name x p) (.Constant (.int (n : Int)) jj p2) pos) .tup o n := fun F ad σ H Q S q w => by
  refine ofE (pe_ix ix_tup (pe_var (i := i) hN hv hd hcd) pe_int fun _ _ => rfl) ?_
  obtain ⟨o', h1, q0, h2, h3⟩ := S.sl i _ hs
  obtain ⟨q1, hd, vs, w1, w2, w3⟩ := w
  rw [h2] at w1
  cases w1
  obtain ⟨v, k1, k2⟩ := q q0 hd vs h2 w2 w3
  have w3 : hd = .tup vs := w3
  subst w3
  exact ⟨.ref q0, by rw [h1, h3], q0, vs, n, v, rfl, rfl, SqT.of w2, atI_nat k1, k2⟩
theorem pj_lst {i o : Nat} (n : Nat) {jj : Nat} (hs : sp.sl[i]? = some (.own o) := by rfl) (hN : X.N[i]? = some x := by rfl)
    (hv : Vis X.env.scope x := by first | exact Or.inl rfl | exact Or.inr (Or.inl rfl) | exact Or.inr (Or.inr rfl)) (hd : (x == ("__debug__" : Str)) = false := by decide) (hcd : (x == ("__classdict__" : Str)) = false := by decide) :
    PJ X Z sp (.Subscript (.Name x p) (.Constant (.int (n : Int)) jj p2) pos) .lst o n := fun F ad σ H Q S q w => by
  refine ofE (pe_ix ix_list (pe_var (i := i) hN hv hd hcd) pe_int fun _ _ => rfl) ?_
  obtain ⟨o', h1, q0, h2, h3⟩ := S.sl i _ hs
  obtain ⟨q1, hd, vs, w1, w2, w3⟩ := w
  rw [h2] at w1
  cases w1
  obtain ⟨v, k1, k2⟩ := q q0 hd vs h2 w2 w3
  have w3 : hd = .lst vs := w3
  subst w3
  exact ⟨.ref q0, by rw [h1, h3], q0, vs, n, v, rfl, rfl, SqL.of w2, atI_nat k1, k2⟩
/-- what is needed of a class, to read and store a field -/
structure FldOk (K : Frag) (C : Addr) (f : Str) : Prop where
  cl : Cls K C
  na : NoAttr K C f
theorem lookup_zip {ns : List Str} {vs : List V} : ∀ {i : Nat} {f : Str} {v : V}, ns.Nodup → ns[i]? = some f → vs[i]? = some v → (ns.zip vs).lookup f = some v := by
  induction ns generalizing vs with
  | nil => intro i f v _ h; simp at h
  | cons n ns ih =>
    intro i f v nd h1 h2
    cases vs with
    | nil => simp at h2
    | cons w vs =>
      rw [List.nodup_cons] at nd
      cases i with
      | zero =>
        simp at h1 h2
        subst h1 h2
        simp [List.lookup_cons]
      | succ i =>
        have h1' : ns[i]? = some f := by simpa using h1
        have hne : (f == n) = false := by
          rw [beq_eq_false_iff_ne]
          rintro rfl
          exact nd.1 (List.mem_of_getElem? h1')
        rw [List.zip_cons_cons, List.lookup_cons, hne]
        exact ih nd.2 h1' (by simpa using h2)
theorem pj_fld {i o n : Nat} {C : Addr} {ns : List Str} {f : Str} (fo : FldOk X.K C f) (hs : sp.sl[i]? = some (.own o) := by rfl) (hn : ns[n]? = some f := by rfl) (hN : X.N[i]? = some x := by rfl) (nd : ns.Nodup := by decide)
    (hv : Vis X.env.scope x := by first | exact Or.inl rfl | exact Or.inr (Or.inl rfl) | exact Or.inr (Or.inr rfl)) (hd : (x == ("__debug__" : Str)) = false := by decide) (hcd : (x == ("__classdict__" : Str)) = false := by decide)
    (hb : attributeBase (.Name x p) f X.env (eval (.Name x p) X.env) = eval (.Name x p) X.env := by rfl) :
    PJ X Z sp (.Attribute (.Name x p) f pos) (.ins C ns) o n := fun F ad σ H Q S q w => by
  refine ofE (pe_fld (pe_var (i := i) hN hv hd hcd) hb) ?_
  obtain ⟨o', h1, q0, h2, h3⟩ := S.sl i _ hs
  obtain ⟨q1, hd, vs, w1, w2, w3⟩ := w
  rw [h2] at w1
  cases w1
  obtain ⟨v, k1, k2⟩ := q q0 hd vs h2 w2 w3
  obtain ⟨wl, dx, w3⟩ := w3
  subst w3
  exact ⟨.ref q0, by rw [h1, h3], q0, C, dx, _, v, rfl, w2, fo.cl, fo.na, lookup_zip nd hn k1, k2⟩
variable {sh : Sh} {o i : Nat} {vw : Vw X.K γ} {s : γ}
theorem PJ.run (h : PJ X Z sp e sh o i) (ho : sp.ob[o]? = some (.pk t (pkI sh vw) s)) {f : Fd X.K} (hf : (vw s)[i]? = some f) {Q : VK} (S : SOk Z F ad sp σ H)
    (q : ∀ q0 L hd vs v, ad[o]? = some q0 → LfW Z.G F H ad sp.ob L → H q0 = some hd → sh.is hd vs → FdOk F H (vw s) vs (L o) → F q0 = none → Z.G q0 = none → (∀ q, t = some q → q0 = q) → vs[i]? = some v → Q v H) : wE X e σ H Q := by
  obtain ⟨q0, L, h1, W, ⟨hd, vs, k1, k2, k3⟩, k4, k5, k6⟩ := S.pk ho
  have ⟨v, hv⟩ := k3.st (q := q0) hf
  refine h F ad σ H Q S (fun q1 hd1 vs1 g1 g2 g3 => ?_) ⟨q0, hd, vs, h1, k1, k2⟩
  rw [h1] at g1
  cases g1
  rw [k1] at g2
  cases g2
  have ev : vs1 = vs := by
    cases sh with
    | tup => exact HO.tup.inj (g3.symm.trans k2)
    | lst => exact HO.lst.inj (g3.symm.trans k2)
    | ins C ns =>
      obtain ⟨l1, dx, e1⟩ := g3
      obtain ⟨l2, dx2, e2⟩ := k2
      have e := (HO.ins.inj (e1.symm.trans e2)).2.2
      have u1 : (ns.zip vs1).map Prod.snd = vs1 := by rw [List.map_snd_zip (by omega)]
      have u2 : (ns.zip vs).map Prod.snd = vs := by rw [List.map_snd_zip (by omega)]
      rw [← u1, e, u2]
  subst ev
  exact ⟨v, hv, q q0 L hd vs1 v h1 W k1 k2 k3 k4 k5 k6 hv⟩
theorem lj_pj {en : Enc X.K α} {xs : List α} (h : PJ X Z sp e sh o i) (ho : sp.ob[o]? = some (.pk t (pkI sh vw) s) := by rfl) (hf : (vw s)[i]? = some (.lst en xs) := by rfl) : LJ X Z sp e (.ok xs) en := fun F ad σ H Q S hm => by
  refine h.run ho hf S fun q0 L hd vs v h1 W k1 k2 k3 k4 k5 k6 hv => ?_
  obtain ⟨q, o', g1, g2, g3, us, g4, g5, g6⟩ := k3.one_at hf
  rw [hv] at g1
  cases g1
  subst g4
  exact hm F H q us S.refl (SqL.of g3) g5 g6
theorem ej_pj {en : Enc X.K α} {v : α} (h : PJ X Z sp e sh o i) (ho : sp.ob[o]? = some (.pk t (pkI sh vw) s) := by rfl) (hf : (vw s)[i]? = some (.val en v) := by rfl) : EJ X Z sp e (.ok v) en := fun F ad σ H Q S hm => by
  refine h.run ho hf S fun q0 L hd vs u h1 W k1 k2 k3 k4 k5 k6 hv => ?_
  obtain ⟨w, g1, g2⟩ := k3.val_at hf
  rw [hv] at g1
  cases g1
  exact hm F H u S.refl g2
/-! ### the fields, changed -/
/-- the list at a field: where it stands, and how it may be changed -/
theorem PJ.own {en : Enc X.K α} {xs : List α} (h : PJ X Z sp e sh o i) (ho : sp.ob[o]? = some (.pk t (pkI sh vw) s)) (hf : (vw s)[i]? = some (.lst en xs)) {Q : VK} (S : SOk Z F ad sp σ H)
    (q : ∀ q us, H q = some (.lst us) → us.length ≤ sizeLine → Reps en F us xs → F q = none →
      (∀ {F2 H2 : Hp} {σ2 : Sg} {sl2 : List (Sl X.K)} {us' : List V} {xs' : List α} (s' : γ), Nx F H F2 H2 → SOk Z F2 ad ⟨sl2, sp.ob⟩ σ2 H2 → us'.length ≤ sizeLine → Reps en F2 us' xs' → vw s' = (vw s).set i (.lst en xs') → SOk Z F2 ad ⟨sl2, sp.ob.set o (.pk t (pkI sh vw) s')⟩ σ2 (L2.upd H2 q (.lst us'))) → Q (.ref q) H) : wE X e σ H Q := by
  refine h.run ho hf S fun q0 L hd vs v h1 W k1 k2 k3 k4 k5 k6 hv => ?_
  obtain ⟨a, o', g1, g2, g3, us, g4, g5, g6⟩ := k3.one_at hf
  rw [hv] at g1
  cases g1
  subst g4
  obtain ⟨d1, d2, d3, d4⟩ := W.di o a g2
  have ne : q0 ≠ a := fun z => d1 (z ▸ List.mem_of_getElem? h1)
  refine q a us g3 g5 g6 d2 fun {F2 H2 σ2 sl2 us' xs'} s' n S2 hz r hs' => ?_
  have W2 := W.nx n
  have k3' := k3.go n.ff fun q _ => n.hh q
  have f2 := n.non k4 (by rw [k1]; exact fun z => nomatch z)
  refine SOk.pkset (sp := ⟨sl2, sp.ob⟩) (L := L) (l' := L o) S2 W2 h1 f2 k5 (getElem?_some_of ho) (fun b hb hb2 => upd_ne fun z => hb2 (z ▸ g2)) (fun b hb => ?_) (W.nd o) ⟨⟨hd, vs, ?_, k2, ?_⟩, f2, k5, k6⟩
  · obtain ⟨e1, e2, e3, e4⟩ := W2.di o b hb
    refine ⟨e2, e3, e1, ?_, fun k hk z => hk (W.un o b hb k z)⟩
    by_cases z : b = a
    · rw [z, upd_same]; exact fun z => nomatch z
    · rw [upd_ne z]; exact e4
  · rw [upd_ne ne]; exact n.hh _ _ k1
  · rw [hs']
    exact k3'.set_one (e' := lstE en) (b := xs') (fun x hx => upd_ne hx) upd_same ⟨us', rfl, hz, r⟩ (W.nd o) hf hv
theorem bj_appP {en : Enc X.K α} {me : Res α} {kk : List α → Res ρ} {xs : List α} {pe : Expr} {apos cpos : Pos} (s' : List α → γ) (h0 : PJ X Z sp pe sh o i) (ho : sp.ob[o]? = some (.pk t (pkI sh vw) s)) (hf : (vw s)[i]? = some (.lst en xs)) (h : EJ X Z sp e me en)
    (hs' : ∀ v, vw (s' v) = (vw s).set i (.lst en v)) (hr : ∀ v, BJ X Z Qr D ⟨sp.sl, sp.ob.set o (.pk t (pkI sh vw) (s' v))⟩ rest (kk v)) (hn : nst e = true := by rfl)
    (hline : (apos.endLine == cpos.line) = true := by rfl)
    (hbase : attributeBase pe "append" X.env (eval pe X.env) = eval pe X.env := by rfl)
    (hw : swapsWith (.Call (.Attribute pe "append" apos) [e] [] cpos) none pos.line X.env = pure false := by rfl) :
    BJ X Z Qr D sp (.Expr (.Call (.Attribute pe "append" apos) [e] [] cpos) pos :: rest) (me.bi fun y => (appM xs y).bi kk) := fun F ad σ H S hm => by
  refine seq (ofS (ps_expr (pe_bm PySem.F.plainAttrs_list PySem.F.slot_list_append PySem.F.type_list_append mt_append pe_w (pa_cons pe_w pa_nil (star_cons hn)) hbase (by rw [star_cons hn]; rfl) hline (star_cons hn) rfl) hw) ?_)
  refine h0.own ho hf S fun q us h3 hz h4 h5 put => ?_
  refine ⟨tyV_own h3, ?_⟩
  refine h F ad σ H _ S (hm.bi.imp fun y g F1 H1 u n r => ?_)
  obtain ⟨c, g⟩ := g.bi.gd
  have hl : us.length < sizeLine := by rw [h4.length]; exact c
  refine ⟨q, us, u, rfl, rfl, n.hh _ _ h3, hl, ?_⟩
  exact hr _ F1 ad σ _ (put (s' (xs ++ [y])) n (S.nx n) (by rw [List.length_append]; exact hl) ((h4.mono n.ff).snoc r) (hs' _)) g
theorem bj_appP_p {en : Enc X.K α} {y : α} {kk : List α → Res ρ} {xs : List α} {pe : Expr} {apos cpos : Pos} (s' : List α → γ) (h0 : PJ X Z sp pe sh o i) (ho : sp.ob[o]? = some (.pk t (pkI sh vw) s)) (hf : (vw s)[i]? = some (.lst en xs)) (h : EJ X Z sp e (.ok y) en)
    (hs' : ∀ v, vw (s' v) = (vw s).set i (.lst en v)) (hr : ∀ v, BJ X Z Qr D ⟨sp.sl, sp.ob.set o (.pk t (pkI sh vw) (s' v))⟩ rest (kk v)) (hn : nst e = true := by rfl)
    (hline : (apos.endLine == cpos.line) = true := by rfl)
    (hbase : attributeBase pe "append" X.env (eval pe X.env) = eval pe X.env := by rfl)
    (hw : swapsWith (.Call (.Attribute pe "append" apos) [e] [] cpos) none pos.line X.env = pure false := by rfl) :
    BJ X Z Qr D sp (.Expr (.Call (.Attribute pe "append" apos) [e] [] cpos) pos :: rest) ((appM xs y).bi kk) := bj_appP s' h0 ho hf h hs' hr hn hline hbase hw
theorem bj_clearP {en : Enc X.K α} {xs : List α} {pe : Expr} {apos cpos : Pos} (s' : γ) (h0 : PJ X Z sp pe sh o i) (ho : sp.ob[o]? = some (.pk t (pkI sh vw) s)) (hf : (vw s)[i]? = some (.lst en xs))
    (hs' : vw s' = (vw s).set i (.lst en [])) (hr : BJ X Z Qr D ⟨sp.sl, sp.ob.set o (.pk t (pkI sh vw) s')⟩ rest m)
    (hline : (apos.endLine == cpos.line) = true := by rfl)
    (hbase : attributeBase pe "clear" X.env (eval pe X.env) = eval pe X.env := by rfl)
    (hw : swapsWith (.Call (.Attribute pe "clear" apos) [] [] cpos) none pos.line X.env = pure false := by rfl) :
    BJ X Z Qr D sp (.Expr (.Call (.Attribute pe "clear" apos) [] [] cpos) pos :: rest) m := fun F ad σ H S hm => by
  refine seq (ofS (ps_expr (pe_bm0 PySem.F.plainAttrs_list PySem.F.slot_list_clear PySem.F.type_list_clear mt_clear pe_w hbase hline) hw) ?_)
  refine h0.own ho hf S fun q us h3 hz h4 h5 put => ?_
  refine ⟨tyV_own h3, q, us, rfl, rfl, h3, ?_⟩
  exact hr F ad σ _ (put s' S.refl S (Nat.zero_le _) .nil hs') hm
theorem bj_setiP {en : Enc X.K α} {me : Res α} {mi : Res Int} {kk : List α → Res ρ} {xs : List α} {pe ie : Expr} {spos : Pos} (s' : List α → γ) (h0 : PJ X Z sp pe sh o i) (ho : sp.ob[o]? = some (.pk t (pkI sh vw) s)) (hf : (vw s)[i]? = some (.lst en xs)) (h : EJ X Z sp e me en) (hi : EJ X Z sp ie mi eI)
    (hs' : ∀ v, vw (s' v) = (vw s).set i (.lst en v)) (hr : ∀ v, BJ X Z Qr D ⟨sp.sl, sp.ob.set o (.pk t (pkI sh vw) (s' v))⟩ rest (kk v))
    (ha : ∀ v, assign (.Subscript pe ie spos) X.env v = (do
      let ov ← holding [v] (eval pe X.env)
      let iv ← holding [v, ov] (eval ie X.env)
      standAt spos
      holding [v, ov, iv] (setItem ov iv v)
      release [v, ov, iv] []) := by intro _; rfl)
    (h2 : swapsWithSole [.Subscript pe ie spos] e pos.line X.env = pure false := by rfl) (hw : swappedStores [.Subscript pe ie spos] e X.env = pure none := by rfl) (h1 : (assignEach [.Subscript pe ie spos] X.env).map (·.2) = [assign (.Subscript pe ie spos) X.env] := by rfl) :
    BJ X Z Qr D sp (.Assign [.Subscript pe ie spos] e pos :: rest) (me.bi fun y => mi.bi fun j => (seti xs j y).bi kk) := fun F ad σ H S hm => by
  refine seq (ofS (ps_asg pe_w (pg_sub pe_w pe_w set_list ha) h2 hw h1) ?_)
  refine h F ad σ H _ S (hm.bi.imp fun y g F1 H1 u n1 r1 => ?_)
  have S1 := S.nx n1
  refine h0.own ho hf S1 fun q us h3 hz h4 h5 put => ?_
  refine hi F1 ad σ H1 _ S1 (g.bi.imp fun j g F2 H2 w n2 r2 => ?_)
  unfold seti at g
  cases ej : ixN xs.length j with
  | none => rw [ej] at g; exact g.elim
  | some t =>
    rw [ej] at g
    refine ⟨q, us, j, t, rfl, r2, n2.hh _ _ h3, by rw [h4.length]; exact ej, ?_⟩
    exact hr _ F2 ad σ _ (put (s' (xs.set t y)) n2 (S1.nx n2) (by rw [List.length_set]; exact hz) ((h4.mono n2.ff).set (en.mono n2.ff r1) t) (hs' _)) g
theorem bj_setiP_p {en : Enc X.K α} {y : α} {jj : Int} {kk : List α → Res ρ} {xs : List α} {pe ie : Expr} {spos : Pos} (s' : List α → γ) (h0 : PJ X Z sp pe sh o i) (ho : sp.ob[o]? = some (.pk t (pkI sh vw) s)) (hf : (vw s)[i]? = some (.lst en xs)) (h : EJ X Z sp e (.ok y) en) (hi : EJ X Z sp ie (.ok jj) eI)
    (hs' : ∀ v, vw (s' v) = (vw s).set i (.lst en v)) (hr : ∀ v, BJ X Z Qr D ⟨sp.sl, sp.ob.set o (.pk t (pkI sh vw) (s' v))⟩ rest (kk v))
    (ha : ∀ v, assign (.Subscript pe ie spos) X.env v = (do
      let ov ← holding [v] (eval pe X.env)
      let iv ← holding [v, ov] (eval ie X.env)
      standAt spos
      holding [v, ov, iv] (setItem ov iv v)
      release [v, ov, iv] []) := by intro _; rfl)
    (h2 : swapsWithSole [.Subscript pe ie spos] e pos.line X.env = pure false := by rfl) (hw : swappedStores [.Subscript pe ie spos] e X.env = pure none := by rfl) (h1 : (assignEach [.Subscript pe ie spos] X.env).map (·.2) = [assign (.Subscript pe ie spos) X.env] := by rfl) :
    BJ X Z Qr D sp (.Assign [.Subscript pe ie spos] e pos :: rest) ((seti xs jj y).bi kk) := bj_setiP s' h0 ho hf h hi hs' hr ha h2 hw h1
/-- what comes next is another object, or a value: x[c] = e of a list of things -/
theorem pkput {q0 : Addr} {L : Nat → List Addr} {hd' : HO} {vs' : List V} {s' : γ} {l' : List Addr} (S : SOk Z F ad sp σ H) (W : LfW Z.G F H ad sp.ob L) (hol : o < sp.ob.length) (h1 : ad[o]? = some q0) (k4 : F q0 = none) (k5 : Z.G q0 = none) (k6 : ∀ q, t = some q → q0 = q)
    (hk : sh.is hd' vs') (hfd : FdOk F H (vw s') vs' l') (nd : l'.Nodup) (hl : ∀ q ∈ l', q ∈ L o ∨ (F q = none ∧ Z.G q = none ∧ q ∉ ad ∧ H q ≠ none ∧ ∀ k, q ∉ L k)) : SOk Z F ad ⟨sp.sl, sp.ob.set o (.pk t (pkI sh vw) s')⟩ σ (L2.upd H q0 hd') := by
  have nq : ∀ q ∈ l', q ≠ q0 := fun q hq z => by
    rcases hl q hq with y | ⟨_, _, y, _⟩
    · exact (W.di o q y).1 (z ▸ List.mem_of_getElem? h1)
    · exact y (z ▸ List.mem_of_getElem? h1)
  refine S.pkset (L := L) (l' := l') W h1 k4 k5 hol (fun b hb _ => upd_ne hb) (fun b hb => ?_) nd ⟨⟨hd', vs', upd_same, hk, hfd.go (Same.refl _) fun q hq o z => by rw [upd_ne (nq q hq)]; exact z⟩, k4, k5, k6⟩
  rw [upd_ne (nq b hb)]
  rcases hl b hb with y | ⟨y1, y2, y3, y4, y5⟩
  · obtain ⟨e1, e2, e3, e4⟩ := W.di o b y
    exact ⟨e2, e3, e1, e4, fun k hk z => hk (W.un o b y k z)⟩
  · exact ⟨y1, y2, y3, y4, fun k _ => y5 k⟩
end
end Wk

set_option Elab.async false
set_option linter.all false
set_option maxRecDepth 100000
set_option maxHeartbeats 4000000
namespace Wk
open PySem PySem.Spec PyProof.Rows L2
/-- a thing handed back, all of it new -/
def rtP {K : Frag} {ρ : Type} (E : PkE K ρ) : RtE ρ := fun G F' H' v r => ∃ p l, v = .ref p ∧ E.rep F' H' l p r ∧ (p :: l).Nodup ∧ ∀ q ∈ p :: l, G q = none ∧ F' q = none ∧ H' q ≠ none
section
variable {X : Cx} {Z : Fz} {sp : Spec X.K} {a b c e : Expr} {es : List Expr} {pos p p2 fp : Pos} {α β γ δ ρ θ : Type} {k j : Nat} {x : Str} {F F' H H' : Hp} {ad : List Addr} {σ : Sg} {Qr : ρ → Prop} {D : Ends} {st : Stmt} {st' rest body : List Stmt} {m : Res ρ} {t : Option Addr} {tg it : Expr}
/-! ### such things, made -/
def NJ (X : Cx) (Z : Fz) (sp : Spec X.K) (es : List Expr) {γ : Type} (m : Res γ) (vw : Vw X.K γ) (ks : List Nat) : Prop :=
  ∀ (F : Hp) (ad : List Addr) (σ : Sg) (H : Hp) (Q : List V → Hp → Prop), SOk Z F ad sp σ H → mwp m (fun g => ∀ F' H' vs l, Nx F H F' H' → FdOk F' H' (vw g) vs l → l.Nodup → (∀ q ∈ l, ((∃ k ∈ ks, ad[k]? = some q) ∨ H q = none) ∧ F' q = none ∧ Z.G q = none ∧ H' q ≠ none) → vs.length = es.length → Q vs H') Z.Er → wA X es σ H Q
/-- an expression that gives such a thing -/
def MPJ (X : Cx) (Z : Fz) (sp : Spec X.K) (e : Expr) {γ : Type} (m : Res γ) (E : PkE X.K γ) (ks : List Nat) : Prop :=
  ∀ (F : Hp) (ad : List Addr) (σ : Sg) (H : Hp) (Q : VK), SOk Z F ad sp σ H → mwp m (fun s => ∀ F' H' p l, Nx F H F' H' → E.rep F' H' l p s → (p :: l).Nodup → H p = none → (∀ q ∈ p :: l, ((∃ k ∈ ks, ad[k]? = some q) ∨ H q = none) ∧ F' q = none ∧ Z.G q = none ∧ H' q ≠ none) → Q (.ref p) H') Z.Er → wE X e σ H Q
theorem ks_back {ks : List Nat} {H1 : Hp} {q : Addr} (hh : Same H H1) (h : (∃ k ∈ ks, ad[k]? = some q) ∨ H1 q = none) : (∃ k ∈ ks, ad[k]? = some q) ∨ H q = none := h.imp id fun z => hh.free z
theorem nj_v1 {en : Enc X.K α} {m : Res α} (h : EJ X Z sp e m en) (hn : nst e = true := by rfl) : NJ X Z sp [e] m (vw1 (fV en)) [] := fun F ad σ H Q S hm => by
  refine ofA (pa_cons pe_w pa_nil (star_cons hn)) (h F ad σ H _ S (hm.imp fun x q F1 H1 v n r => ?_))
  exact q F1 H1 [v] [] n (.val r .nil) List.nodup_nil (fun _ h => nomatch h) rfl
theorem nj_vC {en : Enc X.K α} {m : Res α} {mr : Res γ} {vw : Vw X.K γ} {ks : List Nat} (h : EJ X Z sp e m en) (hr : NJ X Z sp es mr vw ks) (hn : nst e = true := by rfl) : NJ X Z sp (e :: es) (m.bi fun x => mr.bi fun g => .ok (x, g)) (vwC (fV en) vw) ks := fun F ad σ H Q S hm => by
  refine ofA (pa_cons pe_w pa_w (star_cons hn)) (h F ad σ H _ S (hm.bi.imp fun x q F1 H1 v n r => ?_))
  refine hr F1 ad σ H1 _ (S.nx n) (q.bi.imp fun g q F2 H2 vs l n2 r2 nd hl hlen => ?_)
  exact q F2 H2 (v :: vs) l (n.trans n2) (.val (en.mono n2.ff r) r2) nd (fun q hq => ⟨ks_back n.hh (hl q hq).1, (hl q hq).2⟩) (by rw [List.length_cons, List.length_cons, hlen])
theorem nj_n1 {en : Enc X.K α} {m : Res (List α)} (h : FJ X Z sp e m en) (hn : nst e = true := by rfl) : NJ X Z sp [e] m (vw1 (fL en)) [] := fun F ad σ H Q S hm => by
  refine ofA (pa_cons pe_w pa_nil (star_cons hn)) (h F ad σ H _ S (hm.imp fun x q F1 H1 p vs n h1 h2 h3 hz r => ?_))
  refine q F1 H1 [.ref p] [p] n (.one h3 ⟨vs, rfl, hz, r⟩ .nil) (by simp) (fun y hy => ?_) rfl
  rw [List.mem_singleton] at hy
  subst hy
  exact ⟨.inr h1, h2, S.gh.free h1, by rw [h3]; exact fun z => nomatch z⟩
theorem nj_nC {en : Enc X.K α} {m : Res (List α)} {mr : Res γ} {vw : Vw X.K γ} {ks : List Nat} (h : FJ X Z sp e m en) (hr : NJ X Z sp es mr vw ks) (hn : nst e = true := by rfl) : NJ X Z sp (e :: es) (m.bi fun x => mr.bi fun g => .ok (x, g)) (vwC (fL en) vw) ks := fun F ad σ H Q S hm => by
  refine ofA (pa_cons pe_w pa_w (star_cons hn)) (h F ad σ H _ S (hm.bi.imp fun x q F1 H1 p us n h1 h2 h3 hz r => ?_))
  refine hr F1 ad σ H1 _ (S.nx n) (q.bi.imp fun g q F2 H2 vs l n2 r2 nd hl hlen => ?_)
  have hne : H1 p ≠ none := by rw [h3]; exact fun z => nomatch z
  have hnot : p ∉ l := fun z => by
    rcases (hl p z).1 with ⟨k, _, y⟩ | y
    · exact S.st p (List.mem_of_getElem? y) h1
    · exact hne y
  refine q F2 H2 (.ref p :: vs) (p :: l) (n.trans n2) (.one (n2.hh _ _ h3) ⟨us, rfl, hz, r.mono n2.ff⟩ r2) (List.nodup_cons.mpr ⟨hnot, nd⟩) (fun y hy => ?_) (by rw [List.length_cons, List.length_cons, hlen])
  rcases List.mem_cons.mp hy with rfl | hy
  · exact ⟨.inr h1, n2.non h2 hne, S.gh.free h1, fun z => hne (n2.hh.free z)⟩
  · exact ⟨ks_back n.hh (hl y hy).1, (hl y hy).2⟩
theorem nj_o1 {en : Enc X.K α} {xs : List α} {i : Nat} (hs : sp.sl[i]? = some (.own k) := by rfl) (ho : sp.ob[k]? = some (.lst t en xs) := by rfl) (hN : X.N[i]? = some x := by rfl)
    (hv : Vis X.env.scope x := by first | exact Or.inl rfl | exact Or.inr (Or.inl rfl) | exact Or.inr (Or.inr rfl)) (hd : (x == ("__debug__" : Str)) = false := by decide) (hcd : (x == ("__classdict__" : Str)) = false := by decide) :
    NJ X Z sp [.Name x pos] (.ok xs) (vw1 (fL en)) [k] := fun F ad σ H Q S hm => by
  refine ofA (pa_cons (pe_var (i := i) hN hv hd hcd) pa_nil (star_cons rfl)) ?_
  obtain ⟨q0, vs, h1, h2, h3, hz, h4, h5, h6, _⟩ := S.own hs ho
  refine ⟨.ref q0, h1, hm F H [.ref q0] [q0] S.refl (.one h3 ⟨vs, rfl, hz, h4⟩ .nil) (by simp) (fun y hy => ?_) rfl⟩
  rw [List.mem_singleton] at hy
  subst hy
  exact ⟨.inl ⟨k, by simp, h2⟩, h5, h6, by rw [h3]; exact fun z => nomatch z⟩
theorem nj_oC {en : Enc X.K α} {xs : List α} {i : Nat} {mr : Res γ} {vw : Vw X.K γ} {ks : List Nat} (hr : NJ X Z sp es mr vw ks) (hk : k ∉ ks) (hs : sp.sl[i]? = some (.own k) := by rfl) (ho : sp.ob[k]? = some (.lst t en xs) := by rfl) (hN : X.N[i]? = some x := by rfl)
    (hv : Vis X.env.scope x := by first | exact Or.inl rfl | exact Or.inr (Or.inl rfl) | exact Or.inr (Or.inr rfl)) (hd : (x == ("__debug__" : Str)) = false := by decide) (hcd : (x == ("__classdict__" : Str)) = false := by decide) :
    NJ X Z sp (.Name x pos :: es) (mr.bi fun g => .ok (xs, g)) (vwC (fL en) vw) (k :: ks) := fun F ad σ H Q S hm => by
  refine ofA (pa_cons (pe_var (i := i) hN hv hd hcd) pa_w (star_cons rfl)) ?_
  obtain ⟨q0, us, h1, h2, h3, hz, h4, h5, h6, _⟩ := S.own hs ho
  refine ⟨.ref q0, h1, hr F ad σ H _ S (hm.bi.imp fun g q F2 H2 vs l n2 r2 nd hl hlen => ?_)⟩
  have hne : H q0 ≠ none := by rw [h3]; exact fun z => nomatch z
  have hnot : q0 ∉ l := fun z => by
    rcases (hl q0 z).1 with ⟨k', m, y⟩ | y
    · have l1 := getElem?_some_of h2
      have l2 := getElem?_some_of y
      rw [List.getElem?_eq_getElem l1] at h2
      rw [List.getElem?_eq_getElem l2] at y
      have e2 : k' = k := (List.getElem_inj S.nd).mp ((Option.some.inj y).trans (Option.some.inj h2).symm)
      exact hk (e2 ▸ m)
    · exact hne y
  refine q F2 H2 (.ref q0 :: vs) (q0 :: l) n2 (.one (n2.hh _ _ h3) ⟨us, rfl, hz, h4.mono n2.ff⟩ r2) (List.nodup_cons.mpr ⟨hnot, nd⟩) (fun y hy => ?_) (by rw [List.length_cons, List.length_cons, hlen])
  rcases List.mem_cons.mp hy with rfl | hy
  · exact ⟨.inl ⟨k, List.mem_cons_self .., h2⟩, n2.non h5 hne, h6, fun z => hne (n2.hh.free z)⟩
  · exact ⟨(hl y hy).1.imp (fun ⟨k', m, z⟩ => ⟨k', List.mem_cons_of_mem _ m, z⟩) id, (hl y hy).2⟩
theorem nj_vC_p {en : Enc X.K α} {v : α} {g : γ} {vw : Vw X.K γ} {ks : List Nat} (h : EJ X Z sp e (.ok v) en) (hr : NJ X Z sp es (.ok g) vw ks) (hn : nst e = true := by rfl) : NJ X Z sp (e :: es) (.ok (v, g)) (vwC (fV en) vw) ks := nj_vC h hr hn
theorem nj_nC_p {en : Enc X.K α} {v : List α} {g : γ} {vw : Vw X.K γ} {ks : List Nat} (h : FJ X Z sp e (.ok v) en) (hr : NJ X Z sp es (.ok g) vw ks) (hn : nst e = true := by rfl) : NJ X Z sp (e :: es) (.ok (v, g)) (vwC (fL en) vw) ks := nj_nC h hr hn
theorem nj_oC_p {en : Enc X.K α} {xs : List α} {i : Nat} {g : γ} {vw : Vw X.K γ} {ks : List Nat} (hr : NJ X Z sp es (.ok g) vw ks) (hk : k ∉ ks) (hs : sp.sl[i]? = some (.own k) := by rfl) (ho : sp.ob[k]? = some (.lst t en xs) := by rfl) (hN : X.N[i]? = some x := by rfl)
    (hv : Vis X.env.scope x := by first | exact Or.inl rfl | exact Or.inr (Or.inl rfl) | exact Or.inr (Or.inr rfl)) (hd : (x == ("__debug__" : Str)) = false := by decide) (hcd : (x == ("__classdict__" : Str)) = false := by decide) :
    NJ X Z sp (.Name x pos :: es) (.ok (xs, g)) (vwC (fL en) vw) (k :: ks) := nj_oC hr hk hs ho hN hv hd hcd
theorem mpj_mk {sh : Sh} {ks : List Nat} {vw : Vw X.K γ} {m : Res γ} (hs : (∃ kk, e = .Tuple es kk pos ∧ sh = .tup) ∨ (e = .List es pos ∧ sh = .lst)) (h : NJ X Z sp es m vw ks) (hl : es.length ≤ 1000) : MPJ X Z sp e m (pkI sh vw) ks := fun F ad σ H Q S hm => by
  have key : ∀ (ho : List V → HO), (∀ vs, sh.is (ho vs) vs) → wA X es σ H fun vs H1 => vs.length ≤ sizeLine ∧ ∀ l, H1 l = none → Q (.ref l) (upd H1 l (ho vs)) := fun ho hho => by
    refine h F ad σ H _ S (hm.imp fun g q F1 H1 vs l n r nd hq hlen => ⟨Nat.le_of_lt (small1000 (by omega)), fun p0 hp => ?_⟩)
    obtain ⟨g1, g2⟩ := n.free hp
    have hnot : p0 ∉ l := fun z => (hq p0 z).2.2.2 hp
    refine q F1 _ p0 l (n.new hp) ⟨ho vs, vs, upd_same, hho vs, r.go (Same.refl _) fun y hy o z => by rw [upd_ne (fun w => hnot (by rw [← w]; exact hy) : y ≠ p0)]; exact z⟩ (List.nodup_cons.mpr ⟨hnot, nd⟩) g1 fun y hy => ?_
    rcases List.mem_cons.mp hy with rfl | hy
    · exact ⟨.inr g1, g2, S.gh.free g1, by rw [upd_same]; exact fun z => nomatch z⟩
    · obtain ⟨e1, e2, e3, e4⟩ := hq y hy
      exact ⟨e1, e2, e3, by rw [upd_ne (fun w => hnot (by rw [← w]; exact hy) : y ≠ p0)]; exact e4⟩
  rcases hs with ⟨kk, rfl, rfl⟩ | ⟨rfl, rfl⟩
  · exact ofE (pe_tup pa_w) (key .tup fun _ => rfl)
  · exact ofE (pe_lst pa_w) (key .lst fun _ => rfl)
theorem mpj_tup {ks : List Nat} {vw : Vw X.K γ} {m : Res γ} {kk : Nat} (h : NJ X Z sp es m vw ks) (hl : es.length ≤ 1000 := by decide) : MPJ X Z sp (.Tuple es kk pos) m (pkI .tup vw) ks := mpj_mk (.inl ⟨kk, rfl, rfl⟩) h hl
theorem mpj_lst {ks : List Nat} {vw : Vw X.K γ} {m : Res γ} (h : NJ X Z sp es m vw ks) (hl : es.length ≤ 1000 := by decide) : MPJ X Z sp (.List es pos) m (pkI .lst vw) ks := mpj_mk (.inr ⟨rfl, rfl⟩) h hl
theorem mpj_call {A : ArE X.K γ} {mf : γ → Res δ} {E : PkE X.K δ} {ma : Res γ} (am : Amb X Z k) (C : Cal X.prog X.w X.K X.mg X.base x j (spF X.mg A mf (rtP E))) (hj : j ≤ k) (ha : AJ X Z sp (e :: es) ma A) (hn : nst e = true := by rfl) (hg : Gl X x := by rfl)
    (hpl : (backTo pos (starEach es X.env)).any (·.1) = false := by rfl) (hdb : (x == ("__debug__" : Str)) = false := by decide) : MPJ X Z sp (.Call (.Name x fp) (e :: es) [] pos) (ma.bi mf) E [] := fun F ad σ H Q S hm =>
  call_core am C hj ha hn hg hpl hdb F ad σ H Q S (hm.imp fun r q F' H' v F1 H1 n1 n2 ⟨p, l, e1, h1, h2, h3⟩ => by
    subst e1
    have hf : ∀ y ∈ p :: l, H y = none := fun y hy => n1.hh.free (h3 y hy).1
    exact q F' H' p l (n1.trans n2) h1 h2 (hf p (List.mem_cons_self ..)) fun y hy => ⟨.inr (hf y hy), (h3 y hy).2.1, S.gh.free (hf y hy), (h3 y hy).2.2⟩)
theorem mpj_call_p {A : ArE X.K γ} {mf : γ → Res δ} {E : PkE X.K δ} {g : γ} (am : Amb X Z k) (C : Cal X.prog X.w X.K X.mg X.base x j (spF X.mg A mf (rtP E))) (hj : j ≤ k) (ha : AJ X Z sp (e :: es) (.ok g) A) (hn : nst e = true := by rfl) (hg : Gl X x := by rfl)
    (hpl : (backTo pos (starEach es X.env)).any (·.1) = false := by rfl) (hdb : (x == ("__debug__" : Str)) = false := by decide) : MPJ X Z sp (.Call (.Name x fp) (e :: es) [] pos) (mf g) E [] := mpj_call am C hj ha hn hg hpl hdb
/-- an empty list for lists of ours -/
theorem mpj_ll0 {en : Enc X.K α} (h : FJ X Z sp e (.ok ([] : List (List α))) (eL en)) : MPJ X Z sp e (.ok []) (pkLL en) [] := fun F ad σ H Q S hm => by
  refine h F ad σ H Q S (fun F1 H1 p vs n h1 h2 h3 hz r => ?_)
  cases r
  exact hm F1 H1 p [] n ⟨h3, Nat.zero_le _, .nil⟩ (by simp) h1 fun y hy => by
    rw [List.mem_singleton] at hy
    subst hy
    exact ⟨.inr h1, h2, S.gh.free h1, by rw [h3]; exact fun z => nomatch z⟩
/-! ### .. kept, handed back -/
theorem bj_retP {E : PkE X.K ρ} {ks : List Nat} (hR : RT Z (rtP E) Qr D.rt) (h : MPJ X Z sp e m E ks) : BJ X Z Qr D sp (.Return (some e) pos :: rest) m := fun F ad σ H S hm => by
  refine seq (ofS (ps_ret pe_w) ?_)
  refine h F ad σ H _ S (hm.imp fun r q F' H' p l n h1 h2 h3 h4 => ?_)
  have S' := S.nx n
  exact hR r F' H' (.ref p) S'.f0 S'.fh S'.gh S'.fg ⟨p, l, rfl, h1, h2, fun y hy => ⟨(h4 y hy).2.2.1, (h4 y hy).2.1, (h4 y hy).2.2.2⟩⟩ q
theorem bj_retPO {E : PkE X.K ρ} {s : ρ} {i : Nat} (hR : RT Z (rtP E) Qr D.rt) (hs : sp.sl[i]? = some (.own k) := by rfl) (ho : sp.ob[k]? = some (.pk t E s) := by rfl) (hN : X.N[i]? = some x := by rfl)
    (hv : Vis X.env.scope x := by first | exact Or.inl rfl | exact Or.inr (Or.inl rfl) | exact Or.inr (Or.inr rfl)) (hd : (x == ("__debug__" : Str)) = false := by decide) (hcd : (x == ("__classdict__" : Str)) = false := by decide) :
    BJ X Z Qr D sp (.Return (some (.Name x p)) pos :: rest) (.ok s) := fun F ad σ H S hm => by
  refine seq (ofS (ps_ret (pe_var (i := i) hN hv hd hcd)) ?_)
  obtain ⟨o', h1, q0, h2, h3⟩ := S.sl i _ hs
  obtain ⟨q1, L, g1, W, g2, g3, g4, g5⟩ := S.pk ho
  rw [h2] at g1
  cases g1
  refine ⟨.ref q0, by rw [h1, h3], hR s F H (.ref q0) S.f0 S.fh S.gh S.fg ⟨q0, L k, rfl, g2, List.nodup_cons.mpr ⟨fun z => (W.di k q0 z).1 (List.mem_of_getElem? h2), W.nd k⟩, fun y hy => ?_⟩ hm⟩
  rcases List.mem_cons.mp hy with rfl | hy
  · exact ⟨g4, g3, E.st g2⟩
  · obtain ⟨e1, e2, e3, e4⟩ := W.di k y hy
    exact ⟨e3, e2, e4⟩
/-- a new thing of ours -/
theorem SOk.pushPk {E : PkE X.K α} {s : α} {q : Addr} {l : List Addr} (S : SOk Z F ad sp σ H) (n : Nx F H F' H') (h1 : E.rep F' H' l q s) (nd : (q :: l).Nodup) (hq : ∀ y ∈ q :: l, H y = none ∧ F' y = none ∧ H' y ≠ none) : SOk Z F' (ad ++ [q]) ⟨sp.sl, sp.ob ++ [.pk none E s]⟩ σ H' := by
  have S' := S.nx n
  obtain ⟨a1, a2, a3⟩ := hq q (List.mem_cons_self ..)
  have hn : q ∉ ad := fun z => S.st q z a1
  obtain ⟨L, W⟩ := S.lf
  have W' := W.nx n
  have nin : ∀ y ∈ q :: l, ∀ k, y ∉ L k := fun y hy k z => (W.di k y z).2.2.2 (hq y hy).1
  rw [List.nodup_cons] at nd
  have hin : ∀ y ∈ l, y ∉ ad ++ [q] := fun y hy z => by
    rcases List.mem_append.mp z with z | z
    · exact S.st y z (hq y (List.mem_cons_of_mem _ hy)).1
    · rw [List.mem_singleton] at z
      exact nd.1 (z ▸ hy)
  refine ⟨S'.f0, S'.fh, S'.gh, S'.fg, ?_, fun a ha => ?_, S'.len, fun i s h => ?_, ?_, fun k o h => ?_, ⟨fun k => if k = sp.ob.length then l else if k < sp.ob.length then L k else [], fun k y hy => ?_, fun k y hy k' hy' => ?_, fun k => ?_, fun k α' t' e' xs' hk => ?_⟩⟩
  · rw [List.nodup_append]
    exact ⟨S.nd, by simp, fun a ha b hb e => hn (by simp at hb; rw [← hb, ← e]; exact ha)⟩
  · rcases List.mem_append.mp ha with ha | ha
    · exact S'.st a ha
    · simp at ha
      rw [ha]
      exact a3
  · obtain ⟨o, h1, h2⟩ := S'.sl i s h
    exact ⟨o, h1, h2.push q⟩
  · simp [S.olen]
  · have h : (sp.ob ++ [.pk none E s])[k]? = some o := h
    by_cases hk : k < sp.ob.length
    · rw [List.getElem?_append_left hk] at h
      obtain ⟨p, h1, h2⟩ := S'.ob k o h
      exact ⟨p, by rw [List.getElem?_append_left (getElem?_some_of h1)]; exact h1, h2⟩
    · have hl := getElem?_some_of h
      have e : k = sp.ob.length := by simp at hl; omega
      subst e
      simp at h
      subst h
      exact ⟨q, by rw [S.olen]; simp, trivial⟩
  · have hy : y ∈ (if k = sp.ob.length then l else if k < sp.ob.length then L k else []) := hy
    by_cases hk : k = sp.ob.length
    · rw [if_pos hk] at hy
      obtain ⟨b1, b2, b3⟩ := hq y (List.mem_cons_of_mem _ hy)
      exact ⟨hin y hy, b2, S.gh.free b1, b3⟩
    · rw [if_neg hk] at hy
      split at hy
      · obtain ⟨b1, b2, b3, b4⟩ := W'.di k y hy
        refine ⟨fun z => ?_, b2, b3, b4⟩
        rcases List.mem_append.mp z with z | z
        · exact b1 z
        · rw [List.mem_singleton] at z
          subst z
          exact nin y (List.mem_cons_self ..) k hy
      · cases hy
  · have hy : y ∈ (if k = sp.ob.length then l else if k < sp.ob.length then L k else []) := hy
    have hy' : y ∈ (if k' = sp.ob.length then l else if k' < sp.ob.length then L k' else []) := hy'
    by_cases hk : k = sp.ob.length
    · rw [if_pos hk] at hy
      by_cases hk' : k' = sp.ob.length
      · rw [hk, hk']
      · rw [if_neg hk'] at hy'
        split at hy'
        · exact absurd hy' (nin y (List.mem_cons_of_mem _ hy) k')
        · cases hy'
    · rw [if_neg hk] at hy
      split at hy
      · by_cases hk' : k' = sp.ob.length
        · rw [if_pos hk'] at hy'
          exact absurd hy (nin y (List.mem_cons_of_mem _ hy') k)
        · rw [if_neg hk'] at hy'
          split at hy'
          · exact W.un k y hy k' hy'
          · cases hy'
      · cases hy
  · show (if k = sp.ob.length then l else if k < sp.ob.length then L k else []).Nodup
    split
    · exact nd.2
    · split
      · exact W.nd k
      · exact List.nodup_nil
  · have hk : (sp.ob ++ [.pk none E s])[k]? = some (.pk t' e' xs') := hk
    by_cases hlt : k < sp.ob.length
    · rw [List.getElem?_append_left hlt] at hk
      obtain ⟨p, hp, r⟩ := W'.ok k α' t' e' xs' hk
      refine ⟨p, by rw [List.getElem?_append_left (getElem?_some_of hp)]; exact hp, ?_⟩
      show pkOk _ _ _ _ _ (if k = sp.ob.length then l else if k < sp.ob.length then L k else []) _ _
      rw [if_neg (by omega), if_pos hlt]
      exact r
    · have hl := getElem?_some_of hk
      have e : k = sp.ob.length := by simp at hl; omega
      subst e
      rw [List.getElem?_append_right (Nat.le_refl _), Nat.sub_self] at hk
      cases hk
      refine ⟨q, by rw [S.olen]; simp, ?_⟩
      show pkOk _ _ _ _ _ (if sp.ob.length = sp.ob.length then l else _) _ _
      rw [if_pos rfl]
      exact ⟨h1, a2, S.gh.free a1, fun _ z => nomatch z⟩
theorem bj_ownP {E : PkE X.K α} {me : Res α} {kk : α → Res ρ} {i : Nat} {pos' : Pos} (am : Amb X Z k) (h : MPJ X Z sp e me E []) (hr : ∀ v, BJ X Z Qr D ⟨sp.sl.set i (.own sp.ob.length), sp.ob ++ [.pk none E v]⟩ rest (kk v)) (hi : X.N[i]? = some x := by rfl) (hx : Loc X.env.scope x := by first | exact Or.inl rfl | exact Or.inr rfl)
    (hs : swapsWith e (some (.Name x pos')) pos.line X.env = pure false := by rfl) (hf : X.fn x = true ∨ X.env.scope.names.lookup x = some .local := by first | exact .inl rfl | exact .inr rfl) :
    BJ X Z Qr D sp (.Assign [.Name x pos'] e pos :: rest) (me.bi kk) := fun F ad σ H S hm => by
  refine seq (ofS (ps_set am.nd hi hx pe_w hs hf) ?_)
  refine h F ad σ H _ S (hm.bi.imp fun v q F' H' p l n h1 h2 h3 h4 => ?_)
  exact hr v F' (ad ++ [p]) _ H' ((S.pushPk n h1 h2 fun y hy => ⟨(h4 y hy).1.resolve_left (by rintro ⟨k, z, _⟩; cases z), (h4 y hy).2.1, (h4 y hy).2.2.2⟩).set ⟨p, by rw [S.olen]; simp, rfl⟩) q
theorem bj_ownP_p {E : PkE X.K α} {v : α} {i : Nat} {pos' : Pos} (am : Amb X Z k) (h : MPJ X Z sp e (.ok v) E []) (hr : BJ X Z Qr D ⟨sp.sl.set i (.own sp.ob.length), sp.ob ++ [.pk none E v]⟩ rest m) (hi : X.N[i]? = some x := by rfl) (hx : Loc X.env.scope x := by first | exact Or.inl rfl | exact Or.inr rfl)
    (hs : swapsWith e (some (.Name x pos')) pos.line X.env = pure false := by rfl) (hf : X.fn x = true ∨ X.env.scope.names.lookup x = some .local := by first | exact .inl rfl | exact .inr rfl) :
    BJ X Z Qr D sp (.Assign [.Name x pos'] e pos :: rest) m := fun F ad σ H S hm => by
  refine seq (ofS (ps_set am.nd hi hx pe_w hs hf) ?_)
  refine h F ad σ H _ S (fun F' H' p l n h1 h2 h3 h4 => ?_)
  exact hr F' (ad ++ [p]) _ H' ((S.pushPk n h1 h2 fun y hy => ⟨(h4 y hy).1.resolve_left (by rintro ⟨k, z, _⟩; cases z), (h4 y hy).2.1, (h4 y hy).2.2.2⟩).set ⟨p, by rw [S.olen]; simp, rfl⟩) hm
/-- .. that stays at once -/
theorem ej_mpj {E : PkE X.K α} {en : Enc X.K α} {me : Res α} (fz : FzE E en) (h : MPJ X Z sp e me E []) : EJ X Z sp e me en := fun F ad σ H Q S hm => by
  refine h F ad σ H Q S (hm.imp fun v q F' H' p l n h1 h2 h3 h4 => ?_)
  let F2 : Hp := fun a => if a ∈ p :: l then H' a else F' a
  have hin : ∀ a ∈ p :: l, F2 a = H' a := fun a ha => if_pos ha
  have ff : Same F' F2 := fun a o z => by
    show (if a ∈ p :: l then H' a else F' a) = some o
    split
    · exact n.fh _ _ z
    · exact z
  refine q F2 H' (.ref p) ⟨n.ff.trans ff, n.hh, fun a o z => ?_, fun a z => ?_⟩ (fz F' H' F2 l p v h1 ff (hin p (List.mem_cons_self ..)) fun y hy => hin y (List.mem_cons_of_mem _ hy))
  · have z : (if a ∈ p :: l then H' a else F' a) = some o := z
    split at z
    · exact z
    · exact n.fh _ _ z
  · by_cases ha : a ∈ p :: l
    · exact .inr ((h4 a ha).1.resolve_left (by rintro ⟨k, z, _⟩; cases z))
    · have z : (if a ∈ p :: l then H' a else F' a) ≠ none := z
      rw [if_neg ha] at z
      exact n.nw a z
end
end Wk

set_option Elab.async false
set_option linter.all false
set_option maxRecDepth 100000
set_option maxHeartbeats 4000000
namespace Wk
open PySem PySem.Spec PyProof.Rows L2
section
variable {X : Cx} {Z : Fz} {sp : Spec X.K} {a b c e : Expr} {es : List Expr} {pos p p2 p3 fp : Pos} {α β γ δ ρ θ : Type} {k j : Nat} {x : Str} {F F' H H' : Hp} {ad : List Addr} {σ : Sg} {Qr : ρ → Prop} {D : Ends} {st : Stmt} {st' rest body : List Stmt} {m : Res ρ} {t : Option Addr} {tg it : Expr}
variable {sh : Sh} {o i n : Nat} {vw : Vw X.K γ} {s : γ}
theorem ixN_nat' {n j : Nat} (hj : j < n) : ixN n (j : Int) = some j := by
  unfold ixN
  rw [if_pos (by omega), if_pos (by omega)]
  rfl
/-- x[c] = a new list, x a list of such things -/
theorem bj_putIx {en : Enc X.K α} {me : Res (List α)} {kk : List α → Res ρ} {jj : Nat} {spos : Pos} {f0 : Fd X.K} (s' : List α → γ) (n : Nat) (hs : sp.sl[i]? = some (.own o)) (ho : sp.ob[o]? = some (.pk t (pkI .lst vw) s)) (h : FJ X Z sp e me en) (hf : (vw s)[n]? = some f0)
    (hs' : ∀ v, vw (s' v) = (vw s).set n (.lst en v)) (hr : ∀ v, BJ X Z Qr D ⟨sp.sl, sp.ob.set o (.pk t (pkI .lst vw) (s' v))⟩ rest (kk v)) (hN : X.N[i]? = some x := by rfl)
    (hv : Vis X.env.scope x := by first | exact Or.inl rfl | exact Or.inr (Or.inl rfl) | exact Or.inr (Or.inr rfl)) (hd : (x == ("__debug__" : Str)) = false := by decide) (hcd : (x == ("__classdict__" : Str)) = false := by decide)
    (ha : ∀ v, assign (.Subscript (.Name x p) (.Constant (.int (n : Int)) jj p2) spos) X.env v = (do
      let ov ← holding [v] (eval (.Name x p) X.env)
      let iv ← holding [v, ov] (eval (.Constant (.int (n : Int)) jj p2) X.env)
      standAt spos
      holding [v, ov, iv] (setItem ov iv v)
      release [v, ov, iv] []) := by intro _; rfl)
    (h2 : swapsWithSole [.Subscript (.Name x p) (.Constant (.int (n : Int)) jj p2) spos] e pos.line X.env = pure false := by rfl) (hw : swappedStores [.Subscript (.Name x p) (.Constant (.int (n : Int)) jj p2) spos] e X.env = pure none := by rfl) (h1 : (assignEach [.Subscript (.Name x p) (.Constant (.int (n : Int)) jj p2) spos] X.env).map (·.2) = [assign (.Subscript (.Name x p) (.Constant (.int (n : Int)) jj p2) spos) X.env] := by rfl) :
    BJ X Z Qr D sp (.Assign [.Subscript (.Name x p) (.Constant (.int (n : Int)) jj p2) spos] e pos :: rest) (me.bi kk) := fun F ad σ H S hm => by
  refine seq (ofS (ps_asg pe_w (pg_sub (pe_var (i := i) hN hv hd hcd) pe_int set_list ha) h2 hw h1) ?_)
  refine h F ad σ H _ S (hm.bi.imp fun y g F1 H1 q us n1 r1 r2 r3 rz r4 => ?_)
  have S1 := S.nx n1
  obtain ⟨o', g1, q0, g2, g3⟩ := S.sl i _ hs
  obtain ⟨q1, L, g4, W, ⟨hdo, vs, k1, k2, k3⟩, k4, k5, k6⟩ := S.pk ho
  rw [g2] at g4
  cases g4
  have k2 : hdo = .lst vs := k2
  subst k2
  have hl : n < vs.length := by rw [← k3.len]; exact getElem?_some_of hf
  have nW : ∀ k, q ∉ L k := fun k z => (W.di k q z).2.2.2 r1
  have k3' := k3.go n1.ff fun q _ => n1.hh q
  have k4' := n1.non k4 (by rw [k1]; exact fun z => nomatch z)
  obtain ⟨l', m1, m2, m3⟩ := k3'.put_one (e' := lstE en) (b := y) r3 ⟨us, rfl, rz, r4⟩ (nW o) (W.nd o) (getElem?_some_of hf)
  refine ⟨.ref q0, by rw [g1, g3], q0, vs, n, n, rfl, rfl, n1.hh _ _ k1, ixN_nat' hl, ?_⟩
  refine hr y F1 ad σ _ (pkput (vs' := vs.set n (.ref q)) (hd' := .lst (vs.set n (.ref q))) (l' := l') S1 (W.nx n1) (getElem?_some_of ho) g2 k4' k5 k6 rfl (by rw [hs']; exact m1) m2 fun z hz => ?_) g
  rcases m3 z hz with rfl | hz
  · exact .inr ⟨r2, S.gh.free r1, fun w => S.st z w r1, by rw [r3]; exact (fun z => nomatch z), nW⟩
  · exact .inl hz
/-- a, b = a new pair of new lists -/
theorem bj_un2 {en : Enc X.K α} {en' : Enc X.K β} {me : Res (List α × List β)} {kk : List α × List β → Res ρ} {i' : Nat} {y y' : Str} {py py' : Pos} {tk : Nat} (am : Amb X Z k) (h : MPJ X Z sp e me (pkI .tup (vwC (fL en) (vw1 (fL en')))) [])
    (hr : ∀ v, BJ X Z Qr D ⟨(sp.sl.set i (.own sp.ob.length)).set i' (.own (sp.ob.length + 1)), (sp.ob ++ [.lst none en v.1]) ++ [.lst none en' v.2]⟩ rest (kk v)) (hi : X.N[i]? = some y := by rfl) (hi' : X.N[i']? = some y' := by rfl)
    (hx : Loc X.env.scope y := by first | exact Or.inl rfl | exact Or.inr rfl) (hx' : Loc X.env.scope y' := by first | exact Or.inl rfl | exact Or.inr rfl)
    (hf : X.fn y = true ∨ X.env.scope.names.lookup y = some .local := by first | exact .inl rfl | exact .inr rfl) (hf' : X.fn y' = true ∨ X.env.scope.names.lookup y' = some .local := by first | exact .inl rfl | exact .inr rfl)
    (hlen : (assignEach [.Name y py, .Name y' py'] X.env).length = 2 := by rfl) (hst : (assignEach [.Name y py, .Name y' py'] X.env).findIdx? (·.1) = none := by rfl)
    (ha : (assignEach [.Name y py, .Name y' py'] X.env).map (·.2) = assign (.Name y py) X.env :: (assignEach [.Name y' py'] X.env).map (·.2) := by rfl) (ha2 : (assignEach [.Name y' py'] X.env).map (·.2) = assign (.Name y' py') X.env :: (assignEach [] X.env).map (·.2) := by rfl)
    (hs : swapsWithSole [.Tuple [.Name y py, .Name y' py'] tk p] e pos.line X.env = pure false := by rfl) (hw : swappedStores [.Tuple [.Name y py, .Name y' py'] tk p] e X.env = pure none := by rfl) (h1 : (assignEach [.Tuple [.Name y py, .Name y' py'] tk p] X.env).map (·.2) = [assign (.Tuple [.Name y py, .Name y' py'] tk p) X.env] := by rfl) :
    BJ X Z Qr D sp (.Assign [.Tuple [.Name y py, .Name y' py'] tk p] e pos :: rest) (me.bi kk) := fun F ad σ H S hm => by
  refine seq (ofS (ps_asg pe_w (pg_tup (n := 2) am.calm (pgs_cons (pg_name am.nd hi hx hf) (pgs_cons (pg_name am.nd hi' hx' hf') pgs_nil ha2) ha) hlen hst) hs hw h1) ?_)
  refine h F ad σ H _ S (hm.bi.imp fun v g F1 H1 q l n1 r1 r2 r3 r4 => ?_)
  obtain ⟨o, vs, k1, k2, k3⟩ := r1
  have k2 : o = .tup vs := k2
  subst k2
  have k3 : FdOk F1 H1 [Fd.lst en v.1, Fd.lst en' v.2] vs l := k3
  cases k3 with
  | one a1 a2 r =>
    rename_i q1 o1 vs1 l1
    cases r with
    | one b1 b2 r =>
      rename_i q2 o2 vs2 l2
      cases r
      obtain ⟨us1, rfl, a3, a4⟩ := a2
      obtain ⟨us2, rfl, b3, b4⟩ := b2
      have m1 := r4 q1 (by simp)
      have m2 := r4 q2 (by simp)
      have f1 : H q1 = none := m1.1.resolve_left (by rintro ⟨k, z, _⟩; cases z)
      have f2 : H q2 = none := m2.1.resolve_left (by rintro ⟨k, z, _⟩; cases z)
      have ne : q1 ≠ q2 := fun z => by
        subst z
        simp at r2
      let H2 : Hp := fun a => if a = q2 then none else H1 a
      have h2n : ∀ a, a ≠ q2 → H2 a = H1 a := fun a h => if_neg h
      have h2q : H2 q2 = none := if_pos rfl
      have nA : Nx F H F1 H2 := ⟨n1.ff, fun a o z => by rw [h2n a (ne_of_none z f2)]; exact n1.hh _ _ z, fun a o z => by rw [h2n a (ne_of_none z m2.2.1)]; exact n1.fh _ _ z, n1.nw⟩
      have nB : Nx F1 H2 F1 H1 := ⟨Same.refl _, fun a o z => by
        have : a ≠ q2 := ne_of_none z h2q
        rw [h2n a this] at z
        exact z, n1.fh, fun _ h => .inl h⟩
      have S1 := S.push nA f1 m1.2.1 (by rw [h2n q1 ne]; exact a1) a3 a4
      have S2 := S1.push nB h2q m2.2.1 b1 b3 b4
      refine ⟨q, [.ref q1, .ref q2], rfl, SqT.of k1, rfl, .ref q1, [.ref q2], rfl, .ref q2, [], rfl, rfl, ?_⟩
      refine hr v F1 _ _ H1 ((S2.set (i := i) (s := .own sp.ob.length) (v := .ref q1) ⟨q1, ?_, rfl⟩).set (i := i') (s := .own (sp.ob.length + 1)) (v := .ref q2) ⟨q2, ?_, rfl⟩) g
      · rw [S.olen, List.getElem?_append_left (by simp), List.getElem?_append_right (Nat.le_refl _)]
        simp
      · rw [S.olen, List.getElem?_append_right (by simp)]
        simp
/-- the same thing, told otherwise -/
theorem pk_same {K : Frag} {G : Hp} {vw : Vw K γ} {s : γ} {vw' : Vw K δ} {s' : δ} {l : List Addr} {q : Addr} (hv : vw s = vw' s') (h : pkOk G F H t (pkI sh vw) l s q) : pkOk G F H t (pkI sh vw') l s' q := by
  obtain ⟨⟨o, vs, h1, h2, h3⟩, h4⟩ := h
  exact ⟨⟨o, vs, h1, h2, by rw [← hv]; exact h3⟩, h4⟩
theorem SOk.repk {vw' : Vw X.K δ} {s' : δ} (S : SOk Z F ad sp σ H) (ho : sp.ob[o]? = some (.pk t (pkI sh vw) s)) (hv : vw s = vw' s') : SOk Z F ad ⟨sp.sl, sp.ob.set o (.pk t (pkI sh vw') s')⟩ σ H := by
  obtain ⟨q0, L, h1, W, h2⟩ := S.pk ho
  refine S.pkset (L := L) (l' := L o) W h1 h2.2.1 h2.2.2.1 (getElem?_some_of ho) (fun _ _ _ => rfl) (fun b hb => ?_) (W.nd o) (pk_same hv h2)
  obtain ⟨e1, e2, e3, e4⟩ := W.di o b hb
  exact ⟨e2, e3, e1, e4, fun k hk z => hk (W.un o b hb k z)⟩
theorem bj_repk {vw' : Vw X.K δ} (o : Nat) (s' : δ) (ho : sp.ob[o]? = some (.pk t (pkI sh vw) s)) (hv : vw s = vw' s') (hr : BJ X Z Qr D ⟨sp.sl, sp.ob.set o (.pk t (pkI sh vw') s')⟩ st' m) : BJ X Z Qr D sp st' m := fun F ad σ H S hm => hr F ad σ H (S.repk ho hv) hm
/-! ### fields of an instance -/
theorem putF_zip {ns : List Str} {vs : List V} {v : V} : ∀ {n : Nat} {f : Str}, ns.Nodup → ns[n]? = some f → ns.length = vs.length → putF f v (ns.zip vs) = ns.zip (vs.set n v) := by
  induction ns generalizing vs with
  | nil => intro n f _ h; simp at h
  | cons m ns ih =>
    intro n f nd h hl
    cases vs with
    | nil => cases hl
    | cons w vs =>
      rw [List.nodup_cons] at nd
      have hl' : ns.length = vs.length := by simpa using hl
      cases n with
      | zero =>
        simp at h
        subst h
        show (if m = m then (m, v) :: ns.zip vs else _) = _
        rw [if_pos rfl]
        rfl
      | succ n =>
        have h' : ns[n]? = some f := by simpa using h
        have hne : m ≠ f := fun z => nd.1 (z ▸ List.mem_of_getElem? h')
        show (if m = f then _ else (m, w) :: putF f v (ns.zip vs)) = _
        rw [if_neg hne, ih nd.2 h' hl']
        rfl
theorem putF_new {ns : List Str} {vs : List V} {v : V} {f : Str} (hf : f ∉ ns) (hl : ns.length = vs.length) : putF f v (ns.zip vs) = (ns ++ [f]).zip (vs ++ [v]) := by
  induction ns generalizing vs with
  | nil =>
    cases vs with
    | nil => rfl
    | cons w vs => cases hl
  | cons m ns ih =>
    cases vs with
    | nil => cases hl
    | cons w vs =>
      rw [List.mem_cons, not_or] at hf
      show (if m = f then _ else (m, w) :: putF f v (ns.zip vs)) = _
      rw [if_neg (Ne.symm hf.1), ih hf.2 (by simpa using hl)]
      rfl
variable {C : Addr} {ns : List Str} {f : Str}
/-- x.f = a new list -/
theorem bj_sfO {en : Enc X.K α} {me : Res (List α)} {kk : List α → Res ρ} {f0 : Fd X.K} {pos' : Pos} (s' : List α → γ) (n : Nat) (fo : FldOk X.K C f) (hs : sp.sl[i]? = some (.own o)) (ho : sp.ob[o]? = some (.pk t (pkI (.ins C ns) vw) s)) (h : FJ X Z sp e me en) (hf : (vw s)[n]? = some f0) (hn : ns[n]? = some f)
    (hs' : ∀ v, vw (s' v) = (vw s).set n (.lst en v)) (hr : ∀ v, BJ X Z Qr D ⟨sp.sl, sp.ob.set o (.pk t (pkI (.ins C ns) vw) (s' v))⟩ rest (kk v)) (hN : X.N[i]? = some x := by rfl) (nd : ns.Nodup := by decide) (hfew : ns.length < 1000 := by decide)
    (hv : Vis X.env.scope x := by first | exact Or.inl rfl | exact Or.inr (Or.inl rfl) | exact Or.inr (Or.inr rfl)) (hd : (x == ("__debug__" : Str)) = false := by decide) (hcd : (x == ("__classdict__" : Str)) = false := by decide)
    (hsw : swapsWith e (some (.Attribute (.Name x p) f pos')) pos.line X.env = pure false := by rfl) :
    BJ X Z Qr D sp (.Assign [.Attribute (.Name x p) f pos'] e pos :: rest) (me.bi kk) := fun F ad σ H S hm => by
  refine seq (ofS (ps_fld (pe_var (i := i) hN hv hd hcd) pe_w hsw) ?_)
  refine h F ad σ H _ S (hm.bi.imp fun y g F1 H1 q us n1 r1 r2 r3 rz r4 => ?_)
  have S1 := S.nx n1
  obtain ⟨o', g1, q0, g2, g3⟩ := S.sl i _ hs
  obtain ⟨q1, L, g4, W, ⟨hdo, vs, k1, ⟨kl, dx, k2⟩, k3⟩, k4, k5, k6⟩ := S.pk ho
  rw [g2] at g4
  cases g4
  subst k2
  have nW : ∀ k, q ∉ L k := fun k z => (W.di k q z).2.2.2 r1
  have k3' := k3.go n1.ff fun q _ => n1.hh q
  have k4' := n1.non k4 (by rw [k1]; exact fun z => nomatch z)
  obtain ⟨l', m1, m2, m3⟩ := k3'.put_one (e' := lstE en) (b := y) r3 ⟨us, rfl, rz, r4⟩ (nW o) (W.nd o) (getElem?_some_of hf)
  refine ⟨.ref q0, by rw [g1, g3], q0, C, dx, _, rfl, n1.hh _ _ k1, fo.cl, fo.na, by rw [List.length_zip]; omega, ?_⟩
  rw [putF_zip nd hn kl]
  refine hr y F1 ad σ _ (pkput (vs' := vs.set n (.ref q)) (hd' := .ins C dx (ns.zip (vs.set n (.ref q)))) (l' := l') S1 (W.nx n1) (getElem?_some_of ho) g2 k4' k5 k6 ⟨by rw [List.length_set]; exact kl, dx, rfl⟩ (by rw [hs']; exact m1) m2 fun z hz => ?_) g
  rcases m3 z hz with rfl | hz
  · exact .inr ⟨r2, S.gh.free r1, fun w => S.st z w r1, by rw [r3]; exact (fun z => nomatch z), nW⟩
  · exact .inl hz
/-- x.f = a value -/
theorem bj_sfV {en : Enc X.K α} {me : Res α} {kk : α → Res ρ} {f0 : Fd X.K} {pos' : Pos} (s' : α → γ) (n : Nat) (fo : FldOk X.K C f) (hs : sp.sl[i]? = some (.own o)) (ho : sp.ob[o]? = some (.pk t (pkI (.ins C ns) vw) s)) (h : EJ X Z sp e me en) (hf : (vw s)[n]? = some f0) (hn : ns[n]? = some f)
    (hs' : ∀ v, vw (s' v) = (vw s).set n (.val en v)) (hr : ∀ v, BJ X Z Qr D ⟨sp.sl, sp.ob.set o (.pk t (pkI (.ins C ns) vw) (s' v))⟩ rest (kk v)) (hN : X.N[i]? = some x := by rfl) (nd : ns.Nodup := by decide) (hfew : ns.length < 1000 := by decide)
    (hv : Vis X.env.scope x := by first | exact Or.inl rfl | exact Or.inr (Or.inl rfl) | exact Or.inr (Or.inr rfl)) (hd : (x == ("__debug__" : Str)) = false := by decide) (hcd : (x == ("__classdict__" : Str)) = false := by decide)
    (hsw : swapsWith e (some (.Attribute (.Name x p) f pos')) pos.line X.env = pure false := by rfl) :
    BJ X Z Qr D sp (.Assign [.Attribute (.Name x p) f pos'] e pos :: rest) (me.bi kk) := fun F ad σ H S hm => by
  refine seq (ofS (ps_fld (pe_var (i := i) hN hv hd hcd) pe_w hsw) ?_)
  refine h F ad σ H _ S (hm.bi.imp fun y g F1 H1 u n1 r1 => ?_)
  have S1 := S.nx n1
  obtain ⟨o', g1, q0, g2, g3⟩ := S1.sl i _ hs
  obtain ⟨q1, L, g4, W, ⟨hdo, vs, k1, ⟨kl, dx, k2⟩, k3⟩, k4, k5, k6⟩ := S1.pk ho
  rw [g2] at g4
  cases g4
  subst k2
  obtain ⟨l', m1, m2, m3⟩ := k3.put_val (e' := en) (b := y) r1 (W.nd o) (getElem?_some_of hf)
  refine ⟨.ref q0, by rw [g1, g3], q0, C, dx, _, rfl, k1, fo.cl, fo.na, by rw [List.length_zip]; omega, ?_⟩
  rw [putF_zip nd hn kl]
  exact hr y F1 ad σ _ (pkput (vs' := vs.set n u) (hd' := .ins C dx (ns.zip (vs.set n u))) (l' := l') S1 W (getElem?_some_of ho) g2 k4 k5 k6 ⟨by rw [List.length_set]; exact kl, dx, rfl⟩ (by rw [hs']; exact m1) m2 fun z hz => .inl (m3 z hz)) g
theorem bj_sfV_p {en : Enc X.K α} {y : α} {f0 : Fd X.K} {pos' : Pos} (s' : γ) (n : Nat) (fo : FldOk X.K C f) (hs : sp.sl[i]? = some (.own o)) (ho : sp.ob[o]? = some (.pk t (pkI (.ins C ns) vw) s)) (h : EJ X Z sp e (.ok y) en) (hf : (vw s)[n]? = some f0) (hn : ns[n]? = some f)
    (hs' : vw s' = (vw s).set n (.val en y)) (hr : BJ X Z Qr D ⟨sp.sl, sp.ob.set o (.pk t (pkI (.ins C ns) vw) s')⟩ rest m) (hN : X.N[i]? = some x := by rfl) (nd : ns.Nodup := by decide) (hfew : ns.length < 1000 := by decide)
    (hv : Vis X.env.scope x := by first | exact Or.inl rfl | exact Or.inr (Or.inl rfl) | exact Or.inr (Or.inr rfl)) (hd : (x == ("__debug__" : Str)) = false := by decide) (hcd : (x == ("__classdict__" : Str)) = false := by decide)
    (hsw : swapsWith e (some (.Attribute (.Name x p) f pos')) pos.line X.env = pure false := by rfl) :
    BJ X Z Qr D sp (.Assign [.Attribute (.Name x p) f pos'] e pos :: rest) m := fun F ad σ H S hm => by
  refine seq (ofS (ps_fld (pe_var (i := i) hN hv hd hcd) pe_w hsw) ?_)
  refine h F ad σ H _ S (fun F1 H1 u n1 r1 => ?_)
  have S1 := S.nx n1
  obtain ⟨o', g1, q0, g2, g3⟩ := S1.sl i _ hs
  obtain ⟨q1, L, g4, W, ⟨hdo, vs, k1, ⟨kl, dx, k2⟩, k3⟩, k4, k5, k6⟩ := S1.pk ho
  rw [g2] at g4
  cases g4
  subst k2
  obtain ⟨l', m1, m2, m3⟩ := k3.put_val (e' := en) (b := y) r1 (W.nd o) (getElem?_some_of hf)
  refine ⟨.ref q0, by rw [g1, g3], q0, C, dx, _, rfl, k1, fo.cl, fo.na, by rw [List.length_zip]; omega, ?_⟩
  rw [putF_zip nd hn kl]
  exact hr F1 ad σ _ (pkput (vs' := vs.set n u) (hd' := .ins C dx (ns.zip (vs.set n u))) (l' := l') S1 W (getElem?_some_of ho) g2 k4 k5 k6 ⟨by rw [List.length_set]; exact kl, dx, rfl⟩ (by rw [hs']; exact m1) m2 fun z hz => .inl (m3 z hz)) hm
/-- x.f += a number -/
theorem bj_saug {v u : Int} {tpos : Pos} (s' : γ) (n : Nat) (fo : FldOk X.K C f) (hs : sp.sl[i]? = some (.own o)) (ho : sp.ob[o]? = some (.pk t (pkI (.ins C ns) vw) s)) (h : EJ X Z sp e (.ok v) eI) (hf : (vw s)[n]? = some (.val eI u)) (hn : ns[n]? = some f)
    (hs' : vw s' = (vw s).set n (.val eI (u + v))) (hr : BJ X Z Qr D ⟨sp.sl, sp.ob.set o (.pk t (pkI (.ins C ns) vw) s')⟩ rest m) (hN : X.N[i]? = some x := by rfl) (nd : ns.Nodup := by decide) (hfew : ns.length < 1000 := by decide)
    (hv : Vis X.env.scope x := by first | exact Or.inl rfl | exact Or.inr (Or.inl rfl) | exact Or.inr (Or.inr rfl)) (hd : (x == ("__debug__" : Str)) = false := by decide) (hcd : (x == ("__classdict__" : Str)) = false := by decide) :
    BJ X Z Qr D sp (.AugAssign (.Attribute (.Name x p) f tpos) .Add e pos :: rest) m := fun F ad σ H S hm => by
  refine seq (ofS (ps_fldaug (pe_var (i := i) hN hv hd hcd) pe_w in_add) ?_)
  obtain ⟨o', g1, q0, g2, g3⟩ := S.sl i _ hs
  obtain ⟨q1, L, g4, W, ⟨hdo, vs, k1, ⟨kl, dx, k2⟩, k3⟩, k4, k5, k6⟩ := S.pk ho
  rw [g2] at g4
  cases g4
  subst k2
  obtain ⟨w, hw1, hw2⟩ := k3.val_at hf
  have hw2 : w = .int u := hw2
  subst hw2
  refine ⟨.ref q0, by rw [g1, g3], q0, C, dx, _, .int u, rfl, k1, fo.cl, fo.na, lookup_zip nd hn hw1, ?_⟩
  refine h F ad σ H _ S (fun F1 H1 y n1 r1 => ?_)
  have r1 : y = .int v := r1
  subst r1
  have S1 := S.nx n1
  have k3' := k3.go n1.ff fun q _ => n1.hh q
  have k4' := n1.non k4 (by rw [k1]; exact fun z => nomatch z)
  obtain ⟨l', m1, m2, m3⟩ := k3'.put_val (e' := eI) (b := u + v) (v := .int (u + v)) rfl (W.nd o) (getElem?_some_of hf)
  refine ⟨u, v, rfl, rfl, dx, _, n1.hh _ _ k1, by rw [List.length_zip]; omega, ?_⟩
  rw [putF_zip nd hn kl]
  exact hr F1 ad σ _ (pkput (vs' := vs.set n (.int (u + v))) (hd' := .ins C dx (ns.zip (vs.set n (.int (u + v))))) (l' := l') S1 (W.nx n1) (getElem?_some_of ho) g2 k4' k5 k6 ⟨by rw [List.length_set]; exact kl, dx, rfl⟩ (by rw [hs']; exact m1) m2 fun z hz => .inl (m3 z hz)) hm
end
end Wk

set_option Elab.async false
set_option linter.all false
set_option maxRecDepth 100000
set_option maxHeartbeats 4000000
namespace Wk
open PySem PySem.Spec PyProof.Rows L2
/-! ### defs and methods that change things that hold others -/
/-- a thing of ours, but for its tag -/
inductive OT (K : Frag) : Type 1 where
  | lst {α : Type} (e : Enc K α) (xs : List α)
  | pk {σ : Type} (e : PkE K σ) (s : σ)
def OT.at {K : Frag} (t : Option Addr) : OT K → Ob K
  | .lst e xs => .lst t e xs
  | .pk e s => .pk t e s
def zipT {K : Frag} : List (Option Addr) → List (OT K) → List (Ob K)
  | t :: ts, o :: os => o.at t :: zipT ts os
  | _, _ => []
def zipA {K : Frag} : List Addr → List (OT K) → List (Ob K)
  | p :: ps, o :: os => o.at (some p) :: zipA ps os
  | _, _ => []
theorem zipA_len {K : Frag} : ∀ {ps : List Addr} {os : List (OT K)}, ps.length = os.length → (zipA ps os).length = ps.length
  | [], [], _ => rfl
  | p :: ps, o :: os, h => by
    show (zipA ps os).length + 1 = _
    rw [zipA_len (by simpa using h)]
    rfl
theorem zipA_get {K : Frag} : ∀ {ps : List Addr} {os : List (OT K)} {i : Nat} {o : Ob K}, (zipA ps os)[i]? = some o → ∃ p u, ps[i]? = some p ∧ os[i]? = some u ∧ o = u.at (some p)
  | [], _, _, _, h => by cases h
  | p :: ps, [], _, _, h => by cases h
  | p :: ps, u :: os, 0, _, h => by cases h; exact ⟨p, u, rfl, rfl, rfl⟩
  | p :: ps, u :: os, i + 1, _, h => by
    obtain ⟨q, w, h1, h2, h3⟩ := zipA_get (ps := ps) (os := os) (i := i) h
    exact ⟨q, w, h1, h2, h3⟩
theorem zipA_at {K : Frag} : ∀ {ps : List Addr} {os : List (OT K)} {i : Nat} {p : Addr} {u : OT K}, ps[i]? = some p → os[i]? = some u → (zipA ps os)[i]? = some (u.at (some p))
  | p :: ps, u :: os, 0, _, _, h, k => by cases h; cases k; rfl
  | p :: ps, u :: os, i + 1, _, _, h, k => zipA_at (ps := ps) (os := os) (i := i) (by simpa using h) (by simpa using k)
  | [], _, _, _, _, h, _ => by cases h
  | p :: ps, [], _, _, _, _, k => by cases k
theorem zipT_get {K : Frag} : ∀ {ps : List (Option Addr)} {os : List (OT K)} {i : Nat} {o : Ob K}, (zipT ps os)[i]? = some o → ∃ p u, ps[i]? = some p ∧ os[i]? = some u ∧ o = u.at p
  | [], _, _, _, h => by cases h
  | p :: ps, [], _, _, h => by cases h
  | p :: ps, u :: os, 0, _, h => by cases h; exact ⟨p, u, rfl, rfl, rfl⟩
  | p :: ps, u :: os, i + 1, _, h => by
    obtain ⟨q, w, h1, h2, h3⟩ := zipT_get (ps := ps) (os := os) (i := i) h
    exact ⟨q, w, h1, h2, h3⟩
structure ArP (K : Frag) (γ : Type) where
  rep : Hp → Hp → Hp → List Addr → List V → γ → Prop
  sl : γ → List (Sl K)
  ob : γ → List (OT K)
  ok : ∀ {F G H : Hp} {ad : List Addr} {vs : List V} {g : γ}, rep F G H ad vs g → vs.length = (sl g).length ∧ (∀ (i : Nat) (s : Sl K), (sl g)[i]? = some s → ∃ v, vs[i]? = some v ∧ slOk G F ad s (some v)) ∧
    ad.length = (ob g).length ∧ ∀ (k : Nat) (o : OT K) (p : Addr), (ob g)[k]? = some o → ad[k]? = some p → obOk G F H (o.at (some p)) p
section
variable {K : Frag} {α β γ δ ρ : Type}
def ap0 : ArP K Unit := ⟨fun _ _ _ ad vs _ => vs = [] ∧ ad = [], fun _ => [], fun _ => [], fun ⟨h, h2⟩ => by
  subst h h2
  exact ⟨rfl, fun i s e => by simp at e, rfl, fun k o p e => by simp at e⟩⟩
def apV (e : Enc K α) (r : ArP K γ) : ArP K (α × γ) := ⟨fun F G H ad vs g => ∃ v ws, vs = v :: ws ∧ e.rep F v g.1 ∧ r.rep F G H ad ws g.2, fun g => .val e g.1 :: r.sl g.2, fun g => r.ob g.2, fun ⟨v, ws, h1, h2, h3⟩ => by
  subst h1
  obtain ⟨k1, k2, k3⟩ := r.ok h3
  refine ⟨by rw [List.length_cons, List.length_cons, k1], fun i s e => ?_, k3⟩
  cases i with
  | zero =>
    simp at e
    subst e
    exact ⟨v, rfl, v, rfl, h2⟩
  | succ i =>
    obtain ⟨u, q1, q2⟩ := k2 i s (by simpa using e)
    exact ⟨u, by simpa using q1, q2⟩⟩
def apL (e : Enc K α) (r : ArP K γ) : ArP K (List α × γ) := ⟨fun F G H ad vs g => ∃ p us ws, vs = .ref p :: ws ∧ SqL K G p us ∧ us.length ≤ sizeLine ∧ Reps e F us g.1 ∧ r.rep F G H ad ws g.2, fun g => .bor e g.1 :: r.sl g.2, fun g => r.ob g.2, fun ⟨p, us, ws, h1, h2, hz, h3, h4⟩ => by
  subst h1
  obtain ⟨k1, k2, k3⟩ := r.ok h4
  refine ⟨by rw [List.length_cons, List.length_cons, k1], fun i s e => ?_, k3⟩
  cases i with
  | zero =>
    simp at e
    subst e
    exact ⟨.ref p, rfl, p, us, rfl, h2, hz, h3⟩
  | succ i =>
    obtain ⟨u, q1, q2⟩ := k2 i s (by simpa using e)
    exact ⟨u, by simpa using q1, q2⟩⟩
theorem up_ok {G F : Hp} {ad : List Addr} {p : Addr} {ws : List V} {sls : List (Sl K)} (k2 : ∀ (i : Nat) (s : Sl K), sls[i]? = some s → ∃ v, ws[i]? = some v ∧ slOk G F ad s (some v)) : ∀ (i : Nat) (s : Sl K), (Sl.own 0 :: sls.map Sl.up)[i]? = some s → ∃ v, (V.ref p :: ws)[i]? = some v ∧ slOk G F (p :: ad) s (some v) := fun i s e => by
  cases i with
  | zero =>
    simp at e
    subst e
    exact ⟨.ref p, rfl, p, rfl, rfl⟩
  | succ i =>
    have e : (sls.map Sl.up)[i]? = some s := by simpa using e
    rw [List.getElem?_map] at e
    cases q : sls[i]? with
    | none => rw [q] at e; cases e
    | some s0 =>
      rw [q] at e
      have e : s0.up = s := Option.some.inj e
      subst e
      obtain ⟨u, q1, q2⟩ := k2 i s0 q
      exact ⟨u, by simpa using q1, q2.up⟩
/-- a list that may be changed -/
def apM (e : Enc K α) (r : ArP K γ) : ArP K (List α × γ) := ⟨fun F G H ad vs g => ∃ p us ws ad', vs = .ref p :: ws ∧ ad = p :: ad' ∧ H p = some (.lst us) ∧ us.length ≤ sizeLine ∧ Reps e F us g.1 ∧ F p = none ∧ G p = none ∧ r.rep F G H ad' ws g.2, fun g => .own 0 :: (r.sl g.2).map Sl.up,
  fun g => .lst e g.1 :: r.ob g.2, fun {F G H ad vs g} ⟨p, us, ws, ad', h1, h0, h2, hz, h3, h5, h6, h4⟩ => by
  subst h1 h0
  obtain ⟨k1, k2, k3, k4⟩ := r.ok h4
  refine ⟨by rw [List.length_cons, List.length_cons, List.length_map, k1], up_ok k2, by rw [List.length_cons, List.length_cons, k3], fun k o q e e2 => ?_⟩
  cases k with
  | zero =>
    simp at e e2
    subst e e2
    exact ⟨us, h2, hz, h3, h5, h6, fun q z => Option.some.inj z⟩
  | succ k => exact k4 k o q (by simpa using e) (by simpa using e2)⟩
/-- a thing that holds others -/
def apP (E : PkE K α) (r : ArP K γ) : ArP K (α × γ) := ⟨fun F G H ad vs g => ∃ p ws ad', vs = .ref p :: ws ∧ ad = p :: ad' ∧ r.rep F G H ad' ws g.2, fun g => .own 0 :: (r.sl g.2).map Sl.up,
  fun g => .pk E g.1 :: r.ob g.2, fun {F G H ad vs g} ⟨p, ws, ad', h1, h0, h4⟩ => by
  subst h1 h0
  obtain ⟨k1, k2, k3, k4⟩ := r.ok h4
  refine ⟨by rw [List.length_cons, List.length_cons, List.length_map, k1], up_ok k2, by rw [List.length_cons, List.length_cons, k3], fun k o q e e2 => ?_⟩
  cases k with
  | zero =>
    simp at e
    subst e
    trivial
  | succ k => exact k4 k o q (by simpa using e) (by simpa using e2)⟩
/-- these stand, each by itself -/
def obsP (G F H : Hp) (os : List (Ob K)) : Prop := ∃ ad L, os.length = ad.length ∧ ad.Nodup ∧ (∀ p ∈ ad, H p ≠ none) ∧ (∀ (k : Nat) (o : Ob K), os[k]? = some o → ∃ p, ad[k]? = some p ∧ obOk G F H o p) ∧ LfW G F H ad os L
/-- what is handed back -/
structure ResK (K : Frag) (β : Type) where
  rep : Hp → V → β → Prop
  ob : V → β → List (Ob K)
def kV (e : Enc K β) : ResK K β := ⟨fun F v b => e.rep F v b, fun _ _ => []⟩
def obN (e : Enc K α) : V → List α → List (Ob K)
  | .ref p, b => [.lst (some p) e b]
  | _, _ => []
def obT (E : PkE K α) : V → α → List (Ob K)
  | .ref p, b => [.pk (some p) E b]
  | _, _ => []
def kN (e : Enc K α) : ResK K (List α) := ⟨fun _ v _ => ∃ p, v = .ref p, obN e⟩
def kT (E : PkE K β) : ResK K β := ⟨fun _ v _ => ∃ p, v = .ref p, obT E⟩
structure RtP (K : Frag) (ρ : Type) where
  ret : Hp → Hp → Hp → List Addr → V → ρ → Prop
  exc : Hp → Hp → Hp → List Addr → Str → ρ → Prop
/-- .. and may raise -/
def rpR (k : ResK K β) (obs : δ → List (OT K)) : RtP K ((β ⊕ Str) × δ) := ⟨fun G F H ad v r => ∃ b, r.1 = .inl b ∧ k.rep F v b ∧ obsP G F H (k.ob v b ++ zipA ad (obs r.2)), fun G F H ad c r => r.1 = .inr c ∧ obsP G F H (zipA ad (obs r.2))⟩
def rpV (k : ResK K β) (obs : δ → List (OT K)) : RtP K (β × δ) := ⟨fun G F H ad v r => k.rep F v r.1 ∧ obsP G F H (k.ob v r.1 ++ zipA ad (obs r.2)), fun _ _ _ _ _ _ => False⟩
/-- from the entry on -/
structure Fwd (F G F' H' : Hp) : Prop where
  ff : Same F F'
  fh : Same F' H'
  gh : Same G H'
  fg : ∀ a, F' a ≠ none → F a ≠ none ∨ G a = none
def spP (mg : Str → Option Value) (A : ArP K γ) (mf : γ → Res ρ) (R : RtP K ρ) : Sp := fun vs H Q E => ∃ F G ad L g, Same F H ∧ Same G H ∧ ad.Nodup ∧ (∀ p ∈ ad, H p ≠ none) ∧ A.rep F G H ad vs g ∧ LfW G F H ad (zipA ad (A.ob g)) L ∧
  mwp (mf g) (fun r => (∀ F' H' v, Fwd F G F' H' → R.ret G F' H' ad v r → Q v H') ∧ ∀ c C F' H', Fwd F G F' H' → R.exc G F' H' ad c r → mg c = some (.ref C) → E (.ref C) none H') (fun _ => False)
end
/-- what is wanted of a return, of an error -/
def RTP (Z : Fz) {K : Frag} {ρ : Type} (R : RtP K ρ) (ad : List Addr) (Qr : ρ → Prop) (rt : VK) : Prop := ∀ (r : ρ) (F' H' : Hp) (v : V), Fwd Z.F0 Z.G F' H' → R.ret Z.G F' H' ad v r → Qr r → rt v H'
def XTP (X : Cx) (Z : Fz) {K : Frag} {ρ : Type} (R : RtP K ρ) (ad : List Addr) (Qr : ρ → Prop) : Prop := ∃ E : XK, Takes X (fun cls d _ H => E cls d H) ∧ ∀ (r : ρ) (c : Str) (C : Addr) (F' H' : Hp), Fwd Z.F0 Z.G F' H' → R.exc Z.G F' H' ad c r → Qr r → X.mg c = some (.ref C) → E (.ref C) none H'
section
variable {P : Program} {w : World} {K : Frag} {mg : Str → Option Value} {base : Heap} {γ ρ : Type}
theorem fn_okP {x qual : Str} {params : Arguments} {body : List Stmt} {scope : Scope} {f : Addr} {fd : FuncData} {dvs : List V} {N ps : List Str} {k : Nat} (F : FunD K x qual params body scope dvs [] f fd) (S : FnScope N ps scope) {A : ArP K γ} {mf : γ → Res ρ} {R : RtP K ρ} (hlen : ∀ g, (A.sl g).length = ps.length)
    (hb : ∀ (cdv : Value) (Ao : Around) (outer : List Env) (s : Shared) (H : Hp) (E : XK) (Z : Fz) (Qr : ρ → Prop) (D : Ends) (g : γ) (ad : List Addr), ad.length = (A.ob g).length → Amb (cxOf (L2.CX P w) P w K mg base N qual scope f cdv Ao outer s H E) Z k → RTP Z R ad Qr D.rt → XTP (cxOf (L2.CX P w) P w K mg base N qual scope f cdv Ao outer s H E) Z R ad Qr → (∀ v H', D.rt v H' → v = .non → ∀ σ, D.nx σ H') →
      BJ (cxOf (L2.CX P w) P w K mg base N qual scope f cdv Ao outer s H E) Z Qr D ⟨A.sl g ++ List.replicate (N.length - ps.length) .any, zipA ad (A.ob g)⟩ body (mf g)) : FnOk P w K mg base (L2.CX P w) (k + 1) f fd ps (spP mg A mf R) := by
  refine F.ok S (fun vs H Q E h => ?_) fun cdv Ao outer s H vs Q E hr h => ?_
  · obtain ⟨F0, G, ad, L, g, _, _, _, _, hA, _⟩ := h
    rw [(A.ok hA).1, hlen]
  · obtain ⟨F0, G, ad, L, g, hF, hG, hnd, hst, hA, hW, hm⟩ := h
    obtain ⟨hl, hs, hol, ho⟩ := A.ok hA
    refine ⟨_, pb_w, hb cdv Ao outer s H E ⟨F0, G, fun _ => False⟩ (fun r => (∀ F' H' v, Fwd F0 G F' H' → R.ret G F' H' ad v r → Q v H') ∧ ∀ c C F' H', Fwd F0 G F' H' → R.exc G F' H' ad c r → mg c = some (.ref C) → E (.ref C) none H') { nx := fun _ H' => Q .non H', rt := Q } g ad hol
      ⟨hr, rfl, S.nd, passes_of rfl, E, takes_of rfl rfl rfl rfl, fun c h => h.elim⟩
      (fun r F' H' v fw hr q => q.1 F' H' v fw hr) ⟨E, takes_of rfl rfl rfl rfl, fun r c C F' H' fw hr q hC => q.2 c C F' H' fw hr hC⟩ (fun v H' h e _ => by subst e; exact h) F0 ad _ H ?_ hm⟩
    refine ⟨Same.refl _, hF, hG, fun a h => .inl h, hnd, hst, ?_, fun i (s : Sl K) h => ?_, zipA_len hol, fun k o h => ?_, ⟨L, hW⟩⟩
    · have e1 : (A.sl g ++ (List.replicate (N.length - ps.length) .any : List (Sl K))).length = ps.length + (N.length - ps.length) := by simp [hlen]
      have e2 : (L2.start N vs).length = vs.length + (N.length - vs.length) := by simp [L2.start]
      exact e1.trans (by rw [e2, hl, hlen])
    · have h : (A.sl g ++ (List.replicate (N.length - ps.length) .any : List (Sl K)))[i]? = some s := h
      have hv : vs.length = ps.length := by rw [hl, hlen]
      have e0 : L2.start N vs = vs.map some ++ List.replicate (N.length - vs.length) none := rfl
      by_cases hi : i < (A.sl g).length
      · rw [List.getElem?_append_left hi] at h
        obtain ⟨v, h1, h2⟩ := hs i s h
        refine ⟨some v, ?_, h2⟩
        rw [e0, List.getElem?_append_left (by rw [List.length_map]; omega), List.getElem?_map, h1]
        rfl
      · have hl2 := getElem?_some_of h
        rw [List.length_append, List.length_replicate] at hl2
        rw [List.getElem?_append_right (by omega)] at h
        have e : s = .any := by
          rw [List.getElem?_replicate] at h
          split at h
          · exact (Option.some.inj h).symm
          · cases h
        subst e
        refine ⟨none, ?_, trivial⟩
        rw [e0, List.getElem?_append_right (by rw [List.length_map]; omega), List.getElem?_replicate, if_pos (by rw [List.length_map]; omega)]
    · obtain ⟨p, u, h1, h2, h3⟩ := zipA_get h
      subst h3
      exact ⟨p, h1, ho k u p h2 h1⟩
end
section
variable {X : Cx} {Z : Fz} {sp : Spec X.K} {a b c e : Expr} {es : List Expr} {pos p p2 fp : Pos} {α β γ δ ρ θ : Type} {k j : Nat} {x : Str} {F F' H H' : Hp} {ad : List Addr} {σ : Sg} {Qr : ρ → Prop} {D : Ends} {st : Stmt} {st' rest body : List Stmt} {m : Res ρ} {t : Option Addr} {tg it : Expr}
theorem SOk.fwdP (S : SOk Z F ad sp σ H) : Fwd Z.F0 Z.G F H := ⟨S.f0, S.fh, S.gh, S.fg⟩
/-- what is left of them: the ks -/
theorem obsP_of {os : List (Ob X.K)} {ks : List Nat} (S : SOk Z F ad sp σ H) (lo : LeO sp.ob ks os) (hn : ks.Nodup) : obsP Z.G F H os := by
  obtain ⟨ad', S'⟩ := (le_mk (sp := ⟨[], sp.ob⟩) (sp' := ⟨[], os⟩) (ks := ks) .nil lo hn).go Z F ad [] H ⟨S.f0, S.fh, S.gh, S.fg, S.nd, S.st, rfl, fun i s h => by simp at h, S.olen, S.ob, S.lf⟩
  obtain ⟨L, W⟩ := S'.lf
  exact ⟨ad', L, S'.olen, S'.nd, S'.st, S'.ob, W⟩
/-! ### handed back -/
variable {obs : δ → List (OT X.K)} {qs : List Addr} {ks : List Nat}
theorem bj_rpV {en : Enc X.K β} {Qr : β × δ → Prop} {m : Res β} (d : δ) (hR : RTP Z (rpV (kV en) obs) qs Qr D.rt) (h : EJ X Z sp e m en) (lo : LeO sp.ob ks (zipA qs (obs d))) (hn : ks.Nodup := by decide) : BJ X Z Qr D sp (.Return (some e) pos :: rest) (m.bi fun r => .ok (r, d)) := fun F ad σ H S hm => by
  refine seq (ofS (ps_ret pe_w) ?_)
  refine h F ad σ H _ S (hm.bi.imp fun r q F' H' v n hr => ?_)
  have S' := S.nx n
  exact hR (r, d) F' H' v S'.fwdP ⟨hr, obsP_of S' lo hn⟩ q
theorem bj_rpV_p {en : Enc X.K β} {Qr : β × δ → Prop} {r : β} (d : δ) (hR : RTP Z (rpV (kV en) obs) qs Qr D.rt) (h : EJ X Z sp e (.ok r) en) (lo : LeO sp.ob ks (zipA qs (obs d))) (hn : ks.Nodup := by decide) : BJ X Z Qr D sp (.Return (some e) pos :: rest) (.ok (r, d)) := bj_rpV d hR h lo hn
theorem bj_rpV0 {Qr : Unit × δ → Prop} (d : δ) (hR : RTP Z (rpV (kV (eU : Enc X.K Unit)) obs) qs Qr D.rt) (hN : ∀ v H', D.rt v H' → v = .non → ∀ σ, D.nx σ H') (lo : LeO sp.ob ks (zipA qs (obs d))) (hn : ks.Nodup := by decide) : BJ X Z Qr D sp [] (.ok ((), d)) := fun F ad σ H S hm =>
  ofB pss_nil (hN _ _ (hR ((), d) F H .non S.fwdP ⟨rfl, obsP_of S lo hn⟩ hm) rfl σ)
theorem bj_rpR {en : Enc X.K β} {Qr : (β ⊕ Str) × δ → Prop} {m : Res β} (d : δ) (hR : RTP Z (rpR (kV en) obs) qs Qr D.rt) (h : EJ X Z sp e m en) (lo : LeO sp.ob ks (zipA qs (obs d))) (hn : ks.Nodup := by decide) : BJ X Z Qr D sp (.Return (some e) pos :: rest) (m.bi fun r => .ok (.inl r, d)) := fun F ad σ H S hm => by
  refine seq (ofS (ps_ret pe_w) ?_)
  refine h F ad σ H _ S (hm.bi.imp fun r q F' H' v n hr => ?_)
  have S' := S.nx n
  exact hR (.inl r, d) F' H' v S'.fwdP ⟨r, rfl, hr, obsP_of S' lo hn⟩ q
theorem bj_rpR_p {en : Enc X.K β} {Qr : (β ⊕ Str) × δ → Prop} {r : β} (d : δ) (hR : RTP Z (rpR (kV en) obs) qs Qr D.rt) (h : EJ X Z sp e (.ok r) en) (lo : LeO sp.ob ks (zipA qs (obs d))) (hn : ks.Nodup := by decide) : BJ X Z Qr D sp (.Return (some e) pos :: rest) (.ok (.inl r, d)) := bj_rpR d hR h lo hn
theorem bj_rpR0 {Qr : (Unit ⊕ Str) × δ → Prop} (d : δ) (hR : RTP Z (rpR (kV (eU : Enc X.K Unit)) obs) qs Qr D.rt) (hN : ∀ v H', D.rt v H' → v = .non → ∀ σ, D.nx σ H') (lo : LeO sp.ob ks (zipA qs (obs d))) (hn : ks.Nodup := by decide) : BJ X Z Qr D sp [] (.ok (.inl (), d)) := fun F ad σ H S hm =>
  ofB pss_nil (hN _ _ (hR (.inl (), d) F H .non S.fwdP ⟨(), rfl, rfl, obsP_of S lo hn⟩ hm) rfl σ)
/-- a thing's name is told -/
theorem SOk.retag {en : Enc X.K α} {xs : List α} {q : Addr} (S : SOk Z F ad sp σ H) (ho : sp.ob[k]? = some (.lst t en xs)) (hq : ad[k]? = some q) : SOk Z F ad ⟨sp.sl, sp.ob.set k (.lst (some q) en xs)⟩ σ H := by
  refine ⟨S.f0, S.fh, S.gh, S.fg, S.nd, S.st, S.len, S.sl, by simp [S.olen], fun i o h => ?_, S.lf.set hq S.nd (Same.refl _) (fun _ _ z => z) (fun _ _ => rfl) fun _ _ _ _ z => nomatch z⟩
  have h : (sp.ob.set k (.lst (some q) en xs))[i]? = some o := h
  by_cases e : i = k
  · subst e
    rw [List.getElem?_set_self (getElem?_some_of ho)] at h
    cases h
    obtain ⟨p, h1, vs, k1, k2, k3, k4, k5, k6⟩ := S.ob i _ ho
    exact ⟨p, h1, vs, k1, k2, k3, k4, k5, fun y hy => by rw [hq] at h1; cases h1; exact Option.some.inj hy⟩
  · rw [List.getElem?_set_ne (Ne.symm e)] at h
    exact S.ob i o h
theorem LeO.setk {K : Frag} {ob os : List (Ob K)} {ks : List Nat} {o : Ob K} (h : LeO ob ks os) (hk : k ∉ ks) : LeO (ob.set k o) ks os := by
  induction h with
  | nil => exact .nil
  | keep r _ ih =>
    rw [List.mem_cons, not_or] at hk
    exact .keep (by rw [List.getElem?_set_ne hk.1]; exact r) (ih hk.2)
/-- one's own list, and the things -/
theorem obsP_list {en : Enc X.K α} {xs : List α} {i : Nat} {os : List (Ob X.K)} (S : SOk Z F ad sp σ H) (hs : sp.sl[i]? = some (.own k)) (ho : sp.ob[k]? = some (.lst t en xs)) (lo : LeO sp.ob ks os) (hn : (k :: ks).Nodup) : ∃ q, σ[i]? = some (some (.ref q)) ∧ obsP Z.G F H (.lst (some q) en xs :: os) := by
  obtain ⟨q, vs, h1, h2, _⟩ := S.own hs ho
  refine ⟨q, h1, obsP_of (S.retag ho h2) (.keep (List.getElem?_set_self (getElem?_some_of ho)) (lo.setk (List.nodup_cons.mp hn).1)) hn⟩
theorem bj_rpRN {en : Enc X.K α} {Qr : (List α ⊕ Str) × δ → Prop} {i : Nat} {y : Str} {xs : List α} (d : δ) (hR : RTP Z (rpR (kN en) obs) qs Qr D.rt) (lo : LeO sp.ob ks (zipA qs (obs d))) (hs : sp.sl[i]? = some (.own k) := by rfl) (ho : sp.ob[k]? = some (.lst t en xs) := by rfl) (hn : (k :: ks).Nodup := by decide) (hN : X.N[i]? = some y := by rfl)
    (hv : Vis X.env.scope y := by first | exact Or.inl rfl | exact Or.inr (Or.inl rfl) | exact Or.inr (Or.inr rfl)) (hd : (y == ("__debug__" : Str)) = false := by decide) (hcd : (y == ("__classdict__" : Str)) = false := by decide) :
    BJ X Z Qr D sp (.Return (some (.Name y p)) pos :: rest) (.ok (.inl xs, d)) := fun F ad σ H S hm => by
  refine seq (ofS (ps_ret (pe_var (i := i) hN hv hd hcd)) ?_)
  obtain ⟨q, h1, h2⟩ := obsP_list S hs ho lo hn
  exact ⟨.ref q, h1, hR (.inl xs, d) F H (.ref q) S.fwdP ⟨xs, rfl, ⟨q, rfl⟩, h2⟩ hm⟩
theorem bj_rpVN {en : Enc X.K α} {Qr : List α × δ → Prop} {i : Nat} {y : Str} {xs : List α} (d : δ) (hR : RTP Z (rpV (kN en) obs) qs Qr D.rt) (lo : LeO sp.ob ks (zipA qs (obs d))) (hs : sp.sl[i]? = some (.own k) := by rfl) (ho : sp.ob[k]? = some (.lst t en xs) := by rfl) (hn : (k :: ks).Nodup := by decide) (hN : X.N[i]? = some y := by rfl)
    (hv : Vis X.env.scope y := by first | exact Or.inl rfl | exact Or.inr (Or.inl rfl) | exact Or.inr (Or.inr rfl)) (hd : (y == ("__debug__" : Str)) = false := by decide) (hcd : (y == ("__classdict__" : Str)) = false := by decide) :
    BJ X Z Qr D sp (.Return (some (.Name y p)) pos :: rest) (.ok (xs, d)) := fun F ad σ H S hm => by
  refine seq (ofS (ps_ret (pe_var (i := i) hN hv hd hcd)) ?_)
  obtain ⟨q, h1, h2⟩ := obsP_list S hs ho lo hn
  exact ⟨.ref q, h1, hR (xs, d) F H (.ref q) S.fwdP ⟨⟨q, rfl⟩, h2⟩ hm⟩
/-! ### raised -/
theorem bj_rpX {kk : ResK X.K β} {Qr : (β ⊕ Str) × δ → Prop} {z : Str} {jj : Nat} {pos' : Pos} (d : δ) (am : Amb X Z k) (hX : XTP X Z (rpR kk obs) qs Qr) (ex : ExF X.K X.mg x) (lo : LeO sp.ob ks (zipA qs (obs d))) (hn : ks.Nodup := by decide) (hg : Gl X x := by rfl) (hdb : (x == ("__debug__" : Str)) = false := by decide) :
    BJ X Z Qr D sp (.Raise (some (.Call (.Name x p) [.Constant (.str z) jj p2] [] pos)) none pos' :: rest) (.ok (.inr x, d)) := fun F ad σ H S hm => by
  obtain ⟨E, tk, hE⟩ := hX
  obtain ⟨C, g, q, kp, sb, ty⟩ := ex.ex
  refine seq (ofS (ps_raise am.calm tk (pmk_own PySem.F.excBase_ValueError q g kp (raises_own sb ty) hg hdb)) ?_)
  exact hE (.inr x, d) x C F H S.fwdP ⟨rfl, obsP_of S lo hn⟩ hm g
end
end Wk

set_option Elab.async false
set_option linter.all false
set_option maxRecDepth 100000
set_option maxHeartbeats 4000000
namespace Wk
open PySem PySem.Spec PyProof.Rows L2
section
variable {X : Cx} {Z : Fz} {sp : Spec X.K} {a b c e : Expr} {es : List Expr} {pos p p2 fp : Pos} {α β γ δ ρ θ : Type} {k j : Nat} {x : Str} {F F' H H' : Hp} {ad : List Addr} {σ : Sg} {Qr : ρ → Prop} {D : Ends} {st : Stmt} {st' rest body : List Stmt} {m : Res ρ} {t : Option Addr} {tg it : Expr} {ks bk : List Nat} {dvs : List V}
/-! ### the arguments -/
def KsM {K : Frag} (ob : List (Ob K)) (ks : List Nat) (os : List (OT K)) : Prop := ∀ (i : Nat) (o : OT K), os[i]? = some o → ∃ k t, ks[i]? = some k ∧ ob[k]? = some (o.at t)
def APJ (X : Cx) (Z : Fz) (sp : Spec X.K) (es : List Expr) {γ : Type} (m : Res γ) (A : ArP X.K γ) (ks bk : List Nat) (dvs : List V) : Prop :=
  ∀ (F : Hp) (ad : List Addr) (σ : Sg) (H : Hp) (Q : List V → Hp → Prop), SOk Z F ad sp σ H → mwp m (fun g => ∀ F' H' vs ps bs, Nx F H F' H' → Paired (fun k p => ad[k]? = some p) ks ps → ps.Nodup → Paired (fun k p => ad[k]? = some p) bk bs →
    (∀ G H2, Same F' G → Same Z.G G → Same H' H2 → (∀ p ∈ ps, G p = none) → (∀ q ∈ bs, ∀ o, H' q = some o → G q = some o) → A.rep F' G H2 ps (vs ++ dvs) g) → KsM sp.ob ks (A.ob g) → Q vs H') Z.Er → wA X es σ H Q
theorem ksP_mem : ∀ {ks : List Nat} {ps : List Addr}, Paired (fun k p => ad[k]? = some p) ks ps → ∀ p ∈ ps, ∃ k ∈ ks, ad[k]? = some p
  | _, _, .nil, p, hp => by cases hp
  | k :: ks, q :: ps, .cons r t, p, hp => by
    rcases List.mem_cons.mp hp with e | hp
    · subst e
      exact ⟨k, List.mem_cons_self .., r⟩
    · obtain ⟨k', h1, h2⟩ := ksP_mem t p hp
      exact ⟨k', List.mem_cons_of_mem _ h1, h2⟩
theorem ksP_get : ∀ {ks : List Nat} {ps : List Addr} {i k : Nat}, Paired (fun k p => ad[k]? = some p) ks ps → ks[i]? = some k → ∃ p, ps[i]? = some p ∧ ad[k]? = some p
  | _, _, _, _, .nil, h => by cases h
  | _, q :: _, 0, _, .cons r _, h => by cases h; exact ⟨q, rfl, r⟩
  | _, _ :: _, i + 1, _, .cons _ t, h => ksP_get (i := i) t (by simpa using h)
theorem ksM_nil {K : Frag} {ob : List (Ob K)} : KsM ob [] [] := fun i o h => by cases h
theorem ksM_cons {K : Frag} {ob : List (Ob K)} {k : Nat} {ks : List Nat} {o : OT K} {os : List (OT K)} {t : Option Addr} (h : ob[k]? = some (o.at t)) (r : KsM ob ks os) : KsM ob (k :: ks) (o :: os) := fun i u e => by
  cases i with
  | zero =>
    cases e
    exact ⟨k, t, rfl, h⟩
  | succ i => exact r i u (by simpa using e)
theorem apj_nil : APJ X Z sp [] (.ok ()) ap0 [] [] [] := fun F ad σ H Q S hq => ofA pa_nil (hq F H [] [] [] S.refl .nil List.nodup_nil .nil (fun _ _ _ _ _ _ _ => ⟨rfl, rfl⟩) ksM_nil)
/-- a default -/
theorem apj_d1 {en : Enc X.K α} {v : V} {a : α} (h : ∀ F, en.rep F v a) : APJ X Z sp [] (.ok (a, ())) (apV en ap0) [] [] [v] := fun F ad σ H Q S hq => ofA pa_nil (hq F H [] [] [] S.refl .nil List.nodup_nil .nil (fun _ _ _ _ _ _ _ => ⟨v, [], rfl, h _, rfl, rfl⟩) ksM_nil)
theorem apj_val {en : Enc X.K α} {A : ArP X.K γ} {m : Res α} {mr : Res γ} (h : EJ X Z sp e m en) (hr : APJ X Z sp es mr A ks bk dvs) (hn : nst e = true := by rfl) : APJ X Z sp (e :: es) (m.bi fun x => mr.bi fun g => .ok (x, g)) (apV en A) ks bk dvs := fun F ad σ H Q S hq => by
  refine ofA (pa_cons pe_w pa_w (star_cons hn)) ?_
  refine h F ad σ H _ S (hq.bi.imp fun x q F1 H1 v n1 r1 => ?_)
  refine hr F1 ad σ H1 _ (S.nx n1) (q.bi.imp fun g q F2 H2 vs ps bs n2 pk nd pb hrep km => ?_)
  exact q F2 H2 _ ps bs (n1.trans n2) pk nd pb (fun G HH s1 s2 sh s3 s4 => ⟨v, vs ++ dvs, rfl, en.mono n2.ff r1, hrep G HH s1 s2 sh s3 s4⟩) km
theorem apj_lst {en : Enc X.K α} {A : ArP X.K γ} {m : Res (List α)} {mr : Res γ} (h : KJ X Z sp e m en) (hr : APJ X Z sp es mr A ks bk dvs) (hn : nst e = true := by rfl) : APJ X Z sp (e :: es) (m.bi fun x => mr.bi fun g => .ok (x, g)) (apL en A) ks bk dvs := fun F ad σ H Q S hq => by
  refine ofA (pa_cons pe_w pa_w (star_cons hn)) ?_
  refine h F ad σ H _ S (hq.bi.imp fun x q F1 H1 p us n1 h1 hz r1 => ?_)
  refine hr F1 ad σ H1 _ (S.nx n1) (q.bi.imp fun g q F2 H2 vs ps bs n2 pk nd pb hrep km => ?_)
  refine q F2 H2 _ ps bs (n1.trans n2) pk nd pb (fun G HH s1 s2 sh s3 s4 => ⟨p, us, vs ++ dvs, rfl, ?_, hz, r1.mono n2.ff, hrep G HH s1 s2 sh s3 s4⟩) km
  rcases h1 with h1 | h1
  · exact SqL.of (s1 _ _ (n2.ff _ _ h1))
  · exact sqL_mono s2 h1
theorem nd_ks {q0 : Addr} {ps : List Addr} (nd : ad.Nodup) (h2 : ad[k]? = some q0) (hk : k ∉ ks) (pk : Paired (fun k p => ad[k]? = some p) ks ps) : q0 ∉ ps := fun z => by
  obtain ⟨k', g1, g2⟩ := ksP_mem pk q0 z
  have l1 := getElem?_some_of h2
  have l2 := getElem?_some_of g2
  rw [List.getElem?_eq_getElem l1] at h2
  rw [List.getElem?_eq_getElem l2] at g2
  have e2 : k' = k := (List.getElem_inj nd).mp ((Option.some.inj g2).trans (Option.some.inj h2).symm)
  exact hk (e2 ▸ g1)
theorem apj_own {en : Enc X.K α} {A : ArP X.K γ} {xs : List α} {mr : Res γ} {i : Nat} (hr : APJ X Z sp es mr A ks bk dvs) (hk : k ∉ ks) (hs : sp.sl[i]? = some (.own k) := by rfl) (ho : sp.ob[k]? = some (.lst t en xs) := by rfl) (hN : X.N[i]? = some x := by rfl)
    (hv : Vis X.env.scope x := by first | exact Or.inl rfl | exact Or.inr (Or.inl rfl) | exact Or.inr (Or.inr rfl)) (hd : (x == ("__debug__" : Str)) = false := by decide) (hcd : (x == ("__classdict__" : Str)) = false := by decide) :
    APJ X Z sp (.Name x pos :: es) (mr.bi fun g => .ok (xs, g)) (apM en A) (k :: ks) bk dvs := fun F ad σ H Q S hq => by
  refine ofA (pa_cons (pe_var (i := i) hN hv hd hcd) pa_w (star_cons rfl)) ?_
  obtain ⟨q0, vs, h1, h2, h3, hz, h4, h5, h6, _⟩ := S.own hs ho
  refine ⟨.ref q0, h1, ?_⟩
  have hne : H q0 ≠ none := by rw [h3]; exact fun z => nomatch z
  refine hr F ad σ H _ S (hq.bi.imp fun g q F2 H2 ws ps bs n2 pk nd pb hrep km => ?_)
  exact q F2 H2 _ (q0 :: ps) bs n2 (.cons h2 pk) (List.nodup_cons.mpr ⟨nd_ks S.nd h2 hk pk, nd⟩) pb (fun G HH s1 s2 sh s3 s4 => ⟨q0, vs, ws ++ dvs, ps, rfl, rfl, sh _ _ (n2.hh _ _ h3), hz, h4.mono n2.ff, n2.non h5 hne, s3 q0 (List.mem_cons_self ..), hrep G HH s1 s2 sh (fun p hp' => s3 p (List.mem_cons_of_mem _ hp')) s4⟩) (ksM_cons (t := t) ho km)
theorem apj_pk {E : PkE X.K α} {A : ArP X.K γ} {s : α} {mr : Res γ} {i : Nat} (hr : APJ X Z sp es mr A ks bk dvs) (hk : k ∉ ks) (hs : sp.sl[i]? = some (.own k) := by rfl) (ho : sp.ob[k]? = some (.pk t E s) := by rfl) (hN : X.N[i]? = some x := by rfl)
    (hv : Vis X.env.scope x := by first | exact Or.inl rfl | exact Or.inr (Or.inl rfl) | exact Or.inr (Or.inr rfl)) (hd : (x == ("__debug__" : Str)) = false := by decide) (hcd : (x == ("__classdict__" : Str)) = false := by decide) :
    APJ X Z sp (.Name x pos :: es) (mr.bi fun g => .ok (s, g)) (apP E A) (k :: ks) bk dvs := fun F ad σ H Q S hq => by
  refine ofA (pa_cons (pe_var (i := i) hN hv hd hcd) pa_w (star_cons rfl)) ?_
  obtain ⟨o', h1, q0, h2, h3⟩ := S.sl i _ hs
  refine ⟨.ref q0, by rw [h1, h3], ?_⟩
  refine hr F ad σ H _ S (hq.bi.imp fun g q F2 H2 ws ps bs n2 pk nd pb hrep km => ?_)
  exact q F2 H2 _ (q0 :: ps) bs n2 (.cons h2 pk) (List.nodup_cons.mpr ⟨nd_ks S.nd h2 hk pk, nd⟩) pb (fun G HH s1 s2 sh s3 s4 => ⟨q0, ws ++ dvs, ps, rfl, rfl, hrep G HH s1 s2 sh (fun p hp' => s3 p (List.mem_cons_of_mem _ hp')) s4⟩) (ksM_cons (t := t) ho km)
theorem apj_val_p {en : Enc X.K α} {A : ArP X.K γ} {v : α} {g : γ} (h : EJ X Z sp e (.ok v) en) (hr : APJ X Z sp es (.ok g) A ks bk dvs) (hn : nst e = true := by rfl) : APJ X Z sp (e :: es) (.ok (v, g)) (apV en A) ks bk dvs := apj_val h hr hn
theorem apj_lst_p {en : Enc X.K α} {A : ArP X.K γ} {v : List α} {g : γ} (h : KJ X Z sp e (.ok v) en) (hr : APJ X Z sp es (.ok g) A ks bk dvs) (hn : nst e = true := by rfl) : APJ X Z sp (e :: es) (.ok (v, g)) (apL en A) ks bk dvs := apj_lst h hr hn
theorem apj_own_p {en : Enc X.K α} {A : ArP X.K γ} {xs : List α} {g : γ} {i : Nat} (hr : APJ X Z sp es (.ok g) A ks bk dvs) (hk : k ∉ ks) (hs : sp.sl[i]? = some (.own k) := by rfl) (ho : sp.ob[k]? = some (.lst t en xs) := by rfl) (hN : X.N[i]? = some x := by rfl)
    (hv : Vis X.env.scope x := by first | exact Or.inl rfl | exact Or.inr (Or.inl rfl) | exact Or.inr (Or.inr rfl)) (hd : (x == ("__debug__" : Str)) = false := by decide) (hcd : (x == ("__classdict__" : Str)) = false := by decide) :
    APJ X Z sp (.Name x pos :: es) (.ok (xs, g)) (apM en A) (k :: ks) bk dvs := apj_own hr hk hs ho hN hv hd hcd
theorem apj_pk_p {E : PkE X.K α} {A : ArP X.K γ} {s : α} {g : γ} {i : Nat} (hr : APJ X Z sp es (.ok g) A ks bk dvs) (hk : k ∉ ks) (hs : sp.sl[i]? = some (.own k) := by rfl) (ho : sp.ob[k]? = some (.pk t E s) := by rfl) (hN : X.N[i]? = some x := by rfl)
    (hv : Vis X.env.scope x := by first | exact Or.inl rfl | exact Or.inr (Or.inl rfl) | exact Or.inr (Or.inr rfl)) (hd : (x == ("__debug__" : Str)) = false := by decide) (hcd : (x == ("__classdict__" : Str)) = false := by decide) :
    APJ X Z sp (.Name x pos :: es) (.ok (s, g)) (apP E A) (k :: ks) bk dvs := apj_pk hr hk hs ho hN hv hd hcd
/-- a list of ours, that is only read -/
theorem apj_lstO {en : Enc X.K α} {A : ArP X.K γ} {xs : List α} {mr : Res γ} {i : Nat} (hr : APJ X Z sp es mr A ks bk dvs) (hs : sp.sl[i]? = some (.own k) := by rfl) (ho : sp.ob[k]? = some (.lst t en xs) := by rfl) (hN : X.N[i]? = some x := by rfl)
    (hv : Vis X.env.scope x := by first | exact Or.inl rfl | exact Or.inr (Or.inl rfl) | exact Or.inr (Or.inr rfl)) (hd : (x == ("__debug__" : Str)) = false := by decide) (hcd : (x == ("__classdict__" : Str)) = false := by decide) :
    APJ X Z sp (.Name x pos :: es) (mr.bi fun g => .ok (xs, g)) (apL en A) ks (k :: bk) dvs := fun F ad σ H Q S hq => by
  refine ofA (pa_cons (pe_var (i := i) hN hv hd hcd) pa_w (star_cons rfl)) ?_
  obtain ⟨q0, vs, h1, h2, h3, hz, h4, h5, h6, _⟩ := S.own hs ho
  refine ⟨.ref q0, h1, ?_⟩
  refine hr F ad σ H _ S (hq.bi.imp fun g q F2 H2 ws ps bs n2 pk nd pb hrep km => ?_)
  exact q F2 H2 _ ps (q0 :: bs) n2 pk nd (.cons h2 pb) (fun G HH s1 s2 sh s3 s4 => ⟨q0, vs, ws ++ dvs, rfl, SqL.of (s4 q0 (List.mem_cons_self ..) _ (n2.hh _ _ h3)), hz, h4.mono n2.ff, hrep G HH s1 s2 sh s3 fun p hp' => s4 p (List.mem_cons_of_mem _ hp')⟩) km
theorem apj_lstO_p {en : Enc X.K α} {A : ArP X.K γ} {xs : List α} {g : γ} {i : Nat} (hr : APJ X Z sp es (.ok g) A ks bk dvs) (hs : sp.sl[i]? = some (.own k) := by rfl) (ho : sp.ob[k]? = some (.lst t en xs) := by rfl) (hN : X.N[i]? = some x := by rfl)
    (hv : Vis X.env.scope x := by first | exact Or.inl rfl | exact Or.inr (Or.inl rfl) | exact Or.inr (Or.inr rfl)) (hd : (x == ("__debug__" : Str)) = false := by decide) (hcd : (x == ("__classdict__" : Str)) = false := by decide) :
    APJ X Z sp (.Name x pos :: es) (.ok (xs, g)) (apL en A) ks (k :: bk) dvs := apj_lstO hr hs ho hN hv hd hcd
/-! ### behind the call -/
def putO {K : Frag} (ob : List (Ob K)) : List Nat → List (Ob K) → List (Ob K)
  | k :: ks, o :: os => putO (ob.set k o) ks os
  | _, _ => ob
theorem putO_nil {K : Frag} {ob : List (Ob K)} {os : List (Ob K)} : putO ob [] os = ob := by unfold putO; rfl
theorem putO_len {K : Frag} : ∀ {ob : List (Ob K)} {ks : List Nat} {os : List (Ob K)}, (putO ob ks os).length = ob.length
  | _, [], _ => by rw [putO_nil]
  | _, _ :: _, [] => rfl
  | ob, k :: ks, o :: os => by
    show (putO (ob.set k o) ks os).length = _
    rw [putO_len, List.length_set]
theorem putO_out {K : Frag} : ∀ {ob : List (Ob K)} {ks : List Nat} {os : List (Ob K)} {i : Nat}, i ∉ ks → (putO ob ks os)[i]? = ob[i]?
  | _, [], _, _, _ => by rw [putO_nil]
  | _, _ :: _, [], _, _ => rfl
  | ob, k :: ks, o :: os, i, h => by
    rw [List.mem_cons, not_or] at h
    show (putO (ob.set k o) ks os)[i]? = _
    rw [putO_out h.2, List.getElem?_set_ne (Ne.symm h.1)]
theorem putO_in {K : Frag} : ∀ {ob : List (Ob K)} {ks : List Nat} {os : List (Ob K)} {i k : Nat}, ks.Nodup → ks.length ≤ os.length → ks[i]? = some k → k < ob.length → (putO ob ks os)[k]? = os[i]?
  | _, [], _, _, _, _, _, h, _ => by cases h
  | _, _ :: _, [], _, _, _, hl, _, _ => by simp at hl
  | ob, k0 :: ks, o :: os, i, k, nd, hl, h, hk => by
    rw [List.nodup_cons] at nd
    show (putO (ob.set k0 o) ks os)[k]? = _
    cases i with
    | zero =>
      cases h
      rw [putO_out nd.1, List.getElem?_set_self hk]
      rfl
    | succ i => exact putO_in nd.2 (by simpa using hl) (by simpa using h) (by rw [List.length_set]; exact hk)
theorem idx_get {ks : List Nat} {k : Nat} (h : k ∈ ks) : ks[ks.idxOf k]? = some k := by
  have hl := List.idxOf_lt_length_iff.mpr h
  rw [List.getElem?_eq_getElem hl, List.getElem_idxOf]
theorem zipT_len {K : Frag} : ∀ {ts : List (Option Addr)} {os : List (OT K)}, ts.length = os.length → (zipT ts os).length = ts.length
  | [], [], _ => rfl
  | t :: ts, o :: os, h => by
    show (zipT ts os).length + 1 = _
    rw [zipT_len (by simpa using h)]
    rfl
theorem at_retag {K : Frag} {G G2 F H : Hp} {o : OT K} {t1 t2 : Option Addr} {p : Addr} (h : obOk G F H (o.at t1) p) (g : G2 p = none) (ht : ∀ q, t2 = some q → p = q) : obOk G2 F H (o.at t2) p := by
  cases o with
  | lst e xs =>
    obtain ⟨vs, k1, k2, k3, k4, _⟩ := h
    exact ⟨vs, k1, k2, k3, k4, g, ht⟩
  | pk e s => trivial
theorem SOk.atP {o : OT X.K} {p : Addr} (S : SOk Z F ad sp σ H) (ho : sp.ob[k]? = some (o.at t)) (hp : ad[k]? = some p) : F p = none ∧ Z.G p = none ∧ ∀ q, t = some q → p = q := by
  cases o with
  | lst e xs =>
    obtain ⟨p', h1, vs, k1, k2, k3, k4, k5, k6⟩ := S.ob k _ ho
    rw [hp] at h1
    cases h1
    exact ⟨k4, k5, k6⟩
  | pk e s =>
    obtain ⟨q, L, h1, W, _, k2, k3, k4⟩ := S.pk ho
    rw [hp] at h1
    cases h1
    exact ⟨k2, k3, k4⟩
theorem slOk.append {K : Frag} {G F : Hp} {ad : List Addr} {s : Sl K} {o : Option V} (l : List Addr) (h : slOk G F ad s o) : slOk G F (ad ++ l) s o := by
  cases s with
  | any => trivial
  | val e a => exact h
  | bor e xs => exact h
  | own k =>
    obtain ⟨p, h1, h2⟩ := h
    exact ⟨p, by rw [List.getElem?_append_left (getElem?_some_of h1)]; exact h1, h2⟩
/-- what is changed by a call -/
abbrev foot (ps : List Addr) (ks : List Nat) (L : Nat → List Addr) : List Addr := ps ++ ks.flatMap L
theorem SOk.afterP {F1 H1 : Hp} {ps : List Addr} {os : List (OT X.K)} {ts : List (Option Addr)} {ex : List (Ob X.K)} {L : Nat → List Addr} (S0 : SOk Z F ad sp σ H) (n : Nx F H F1 H1) (W0 : LfW Z.G F H ad sp.ob L) (pk : Paired (fun k p => ad[k]? = some p) ks ps) (nd : ps.Nodup) (nk : ks.Nodup)
    (tm : ∀ (i k : Nat), ks[i]? = some k → ∃ t o, ts[i]? = some t ∧ sp.ob[k]? = some (OT.at t o)) (hl : os.length = ps.length) (htl : ts.length = ps.length) (fw : Fwd F1 (restH H1 (foot ps ks L)) F' H') (op : obsP (restH H1 (foot ps ks L)) F' H' (ex ++ zipA ps os)) (hnd : ∀ o ∈ ex, o ≠ .dead) :
    ∃ adx, adx.length = ex.length ∧ (∀ (i : Nat) (o : Ob X.K), ex[i]? = some o → ∃ p, adx[i]? = some p ∧ ∀ (u : OT X.K) q, o = u.at (some q) → p = q) ∧ SOk Z F' (ad ++ adx) ⟨sp.sl, putO sp.ob ks (zipT ts os) ++ ex⟩ σ H' := by
  have S := S0.nx n
  have W := W0.nx n
  have hkl : ks.length = ps.length := Paired.length pk
  obtain ⟨ad', L', l1, l2, l3, l4, l5⟩ := op
  have hzl : (zipA ps os).length = ps.length := zipA_len (by omega)
  rw [List.length_append, hzl] at l1
  -- where the handed-in ones stand
  have hin : ∀ k ∈ ks, ∃ p, ad[k]? = some p ∧ p ∈ ps := fun k hk => by
    obtain ⟨i, hi⟩ := List.mem_iff_getElem?.mp hk
    obtain ⟨p, h1, h2⟩ := ksP_get pk hi
    exact ⟨p, h2, List.mem_of_getElem? h1⟩
  have gps : ∀ p ∈ ps, F1 p = none ∧ Z.G p = none := fun p hp => by
    obtain ⟨i, hi⟩ := List.mem_iff_getElem?.mp hp
    have hil := getElem?_some_of hi
    have hik : i < ks.length := by omega
    obtain ⟨t, o, _, h2⟩ := tm i ks[i] (List.getElem?_eq_getElem hik)
    obtain ⟨p', h3, h4⟩ := ksP_get pk (List.getElem?_eq_getElem hik)
    rw [hi] at h3
    cases h3
    have := S.atP h2 h4
    exact ⟨this.1, this.2.1⟩
  have gL : ∀ k q, q ∈ L k → F1 q = none ∧ Z.G q = none ∧ H1 q ≠ none := fun k q hq => ⟨(W.di k q hq).2.1, (W.di k q hq).2.2.1, (W.di k q hq).2.2.2⟩
  have gf : ∀ p ∈ foot ps ks L, F1 p = none ∧ Z.G p = none := fun p hp => by
    rcases List.mem_append.mp hp with h | h
    · exact gps p h
    · obtain ⟨k, _, hq⟩ := List.mem_flatMap.mp h
      exact ⟨(gL k p hq).1, (gL k p hq).2.1⟩
  have zg : Same Z.G (restH H1 (foot ps ks L)) := fun a o h => by
    have : a ∉ foot ps ks L := fun z => by rw [(gf a z).2] at h; cases h
    rw [restH_out this]
    exact S.gh _ _ h
  have keep : ∀ a, a ∉ foot ps ks L → ∀ o, H1 a = some o → H' a = some o := fun a ha o h => fw.gh a o (by rw [restH_out ha]; exact h)
  have non : ∀ a, a ∉ foot ps ks L → F1 a = none → H1 a ≠ none → F' a = none := fun a ha h1 h2 => by
    cases q : F' a with
    | none => rfl
    | some o =>
      rcases fw.fg a (by rw [q]; exact fun z => nomatch z) with z | z
      · exact absurd h1 z
      · rw [restH_out ha] at z
        exact absurd z h2
  have inj : ∀ {i i' : Nat} {p : Addr}, ad[i]? = some p → ad[i']? = some p → i = i' := fun {i i' p} h h' => by
    have a1 := getElem?_some_of h
    have a2 := getElem?_some_of h'
    rw [List.getElem?_eq_getElem a1] at h
    rw [List.getElem?_eq_getElem a2] at h'
    exact (List.getElem_inj S.nd).mp ((Option.some.inj h).trans (Option.some.inj h').symm)
  have notin : ∀ k p, ad[k]? = some p → k ∉ ks → p ∉ foot ps ks L := fun k p hkp hk z => by
    rcases List.mem_append.mp z with h | h
    · obtain ⟨k', g1, g2⟩ := ksP_mem pk p h
      exact hk ((inj hkp g2) ▸ g1)
    · obtain ⟨k', _, hq⟩ := List.mem_flatMap.mp h
      exact (W.di k' p hq).1 (List.mem_of_getElem? hkp)
  have notL : ∀ k, k ∉ ks → ∀ q ∈ L k, q ∉ foot ps ks L := fun k hk q hq z => by
    rcases List.mem_append.mp z with h | h
    · obtain ⟨k', g1, g2⟩ := ksP_mem pk q h
      exact (W.di k q hq).1 (List.mem_of_getElem? g2)
    · obtain ⟨k', h1, hq'⟩ := List.mem_flatMap.mp h
      exact hk ((W.un k q hq k' hq').symm ▸ h1)
  -- where they stand behind the call
  have at' : ∀ (i : Nat) (p : Addr), ps[i]? = some p → ad'[ex.length + i]? = some p := fun i p hi => by
    have hil := getElem?_some_of hi
    have ho : os[i]? = some os[i] := List.getElem?_eq_getElem (by omega)
    have hz : (ex ++ zipA ps os)[ex.length + i]? = some (os[i].at (some p)) := by
      rw [List.getElem?_append_right (by omega), Nat.add_sub_cancel_left]
      exact zipA_at hi ho
    obtain ⟨p', h1, h2⟩ := l4 _ _ hz
    have e : p' = p := by
      generalize os[i] = u at hz h2
      cases u with
      | lst e xs =>
        obtain ⟨_, _, _, _, _, _, h6⟩ := h2
        exact h6 p rfl
      | pk e s =>
        obtain ⟨p2, h3, h4⟩ := l5.ok _ _ _ _ _ hz
        rw [h1] at h3
        cases h3
        exact h4.2.2.2 p rfl
    rw [h1, e]
  have hal : ex.length ≤ ad'.length := by omega
  have adx : ∀ (i : Nat), i < ex.length → (ad'.take ex.length)[i]? = ad'[i]? := fun i hi => List.getElem?_take_of_lt hi
  -- a new thing is none of ours
  have gex : ∀ (i : Nat) (o : Ob X.K), ex[i]? = some o → o ≠ .dead → ∃ p, ad'[i]? = some p ∧ restH H1 (foot ps ks L) p = none := fun i o hi hd => by
    have hil := getElem?_some_of hi
    have hz : (ex ++ zipA ps os)[i]? = some o := by rw [List.getElem?_append_left hil]; exact hi
    obtain ⟨p, h1, h2⟩ := l4 _ _ hz
    refine ⟨p, h1, ?_⟩
    cases o with
    | dead => exact absurd rfl hd
    | lst t e xs =>
      obtain ⟨_, _, _, _, _, h6, _⟩ := h2
      exact h6
    | gen t e s =>
      obtain ⟨_, _, _, _, h6, _⟩ := h2
      exact h6
    | pk t e s =>
      obtain ⟨p2, h3, h4⟩ := l5.ok _ _ _ _ _ hz
      rw [h1] at h3
      cases h3
      exact h4.2.2.1
  have hpi : ∀ p ∈ ps, ∃ i : Nat, ps[i]? = some p ∧ ad'[ex.length + i]? = some p := fun p hp => by
    obtain ⟨i, hi⟩ := List.mem_iff_getElem?.mp hp
    exact ⟨i, hi, at' i p hi⟩
  have hps' : ∀ p ∈ ps, p ∈ ad' := fun p hp => by
    obtain ⟨i, _, h⟩ := hpi p hp
    exact List.mem_of_getElem? h
  -- none of ours is fresh, but those handed in
  have fresh : ∀ a ∈ ad, restH H1 (foot ps ks L) a = none → a ∈ ps := fun a ha h => by
    obtain ⟨i, hi⟩ := List.mem_iff_getElem?.mp ha
    by_cases hk : i ∈ ks
    · obtain ⟨p, h1, h2⟩ := hin i hk
      rw [hi] at h1
      cases h1
      exact h2
    · rw [restH_out (notin i a hi hk)] at h
      exact absurd h (S.st a ha)
  have gG : ∀ a, restH H1 (foot ps ks L) a = none → Z.G a = none := fun a h => zg.free h
  have inx : ∀ a, a ∈ ad'.take ex.length → ∃ i : Nat, i < ex.length ∧ ad'[i]? = some a ∧ restH H1 (foot ps ks L) a = none := fun a ha => by
    obtain ⟨i, hi⟩ := List.mem_iff_getElem?.mp ha
    have hil := getElem?_some_of hi
    have hil' : i < ex.length := by rw [List.length_take] at hil; omega
    rw [adx i hil'] at hi
    obtain ⟨p, h1, h2⟩ := gex i ex[i] (List.getElem?_eq_getElem hil') (hnd _ (List.getElem_mem hil'))
    rw [hi] at h1
    cases h1
    exact ⟨i, hil', hi, h2⟩
  have dis : ∀ a ∈ ad, a ∉ ad'.take ex.length := fun a ha z => by
    obtain ⟨i, h1, h2, h3⟩ := inx a z
    obtain ⟨i', _, h5⟩ := hpi a (fresh a ha h3)
    have a1 := getElem?_some_of h2
    have a2 := getElem?_some_of h5
    rw [List.getElem?_eq_getElem a1] at h2
    rw [List.getElem?_eq_getElem a2] at h5
    have := (List.getElem_inj l2).mp ((Option.some.inj h2).trans (Option.some.inj h5).symm)
    omega
  have hxl : (ad'.take ex.length).length = ex.length := by rw [List.length_take]; omega
  have new : ∀ m q, q ∈ L' m → q ∉ ad ++ ad'.take ex.length ∧ F' q = none ∧ Z.G q = none ∧ H' q ≠ none ∧ restH H1 (foot ps ks L) q = none := fun m q hq => by
    obtain ⟨h1, h2, h3, h4⟩ := l5.di m q hq
    refine ⟨fun z => ?_, h2, gG q h3, h4, h3⟩
    rcases List.mem_append.mp z with z | z
    · exact h1 (hps' q (fresh q z h3))
    · exact h1 (List.mem_of_mem_take z)
  have old : ∀ k q, k ∉ ks → q ∈ L k → q ∉ ad ++ ad'.take ex.length ∧ F' q = none ∧ Z.G q = none ∧ H' q ≠ none ∧ restH H1 (foot ps ks L) q ≠ none := fun k q hk hq => by
    have nf := notL k hk q hq
    obtain ⟨g1, g2, g3⟩ := gL k q hq
    have g4 : restH H1 (foot ps ks L) q ≠ none := by rw [restH_out nf]; exact g3
    refine ⟨fun z => ?_, non q nf g1 g3, g2, ?_, g4⟩
    · rcases List.mem_append.mp z with z | z
      · exact (W.di k q hq).1 z
      · obtain ⟨_, _, _, h⟩ := inx q z
        exact g4 h
    · cases h : H1 q with
      | none => exact absurd h g3
      | some o => rw [keep q nf o h]; exact fun z => nomatch z
  have cls : ∀ (k : Nat) (o : Ob X.K), (putO sp.ob ks (zipT ts os) ++ ex)[k]? = some o → (∃ t u p, k ∈ ks ∧ ts[ks.idxOf k]? = some t ∧ os[ks.idxOf k]? = some u ∧ o = u.at t ∧ ps[ks.idxOf k]? = some p ∧ ad[k]? = some p) ∨ (k ∉ ks ∧ k < ad.length ∧ sp.ob[k]? = some o) ∨ (k ∉ ks ∧ ad.length ≤ k ∧ k - ad.length < ex.length ∧ ex[k - ad.length]? = some o) := fun k o h => by
    by_cases hk : k < ad.length
    · rw [List.getElem?_append_left (by rw [putO_len, S.olen]; exact hk)] at h
      by_cases hm : k ∈ ks
      · left
        have hi := idx_get hm
        have hzt : ks.length ≤ (zipT ts os).length := by rw [zipT_len (by omega)]; omega
        rw [putO_in nk hzt hi (by rw [S.olen]; exact hk)] at h
        obtain ⟨t, u, h1, h2, h3⟩ := zipT_get h
        obtain ⟨p, h4, h5⟩ := ksP_get pk hi
        exact ⟨t, u, p, hm, h1, h2, h3, h4, h5⟩
      · right; left
        rw [putO_out hm] at h
        exact ⟨hm, hk, h⟩
    · right; right
      have hk' : ad.length ≤ k := by omega
      rw [List.getElem?_append_right (by rw [putO_len, S.olen]; exact hk'), putO_len, S.olen] at h
      refine ⟨fun z => ?_, hk', getElem?_some_of h, h⟩
      obtain ⟨p, h1, _⟩ := hin k z
      exact hk (getElem?_some_of h1)
  have tg : ∀ k t p, k ∈ ks → ts[ks.idxOf k]? = some t → ad[k]? = some p → F1 p = none ∧ Z.G p = none ∧ ∀ q, t = some q → p = q := fun k t p hk h1 h2 => by
    obtain ⟨t', o, h3, h4⟩ := tm _ _ (idx_get hk)
    rw [h1] at h3
    cases h3
    exact S.atP h4 h2
  refine ⟨ad'.take ex.length, hxl, fun i o hi => ?_, S.f0.trans fw.ff, fw.fh, zg.trans fw.gh, fun a h => ?_, ?_, fun p hp => ?_, S.len, fun i s h => ?_, ?_, fun k o h => ?_, fun k => if k ∈ ks then L' (ex.length + ks.idxOf k) else if ad.length ≤ k ∧ k < ad.length + ex.length then L' (k - ad.length) else L k, ?_, ?_, ?_, ?_⟩
  · have hil := getElem?_some_of hi
    obtain ⟨p, h1, h2⟩ := l4 i o (by rw [List.getElem?_append_left hil]; exact hi)
    refine ⟨p, by rw [adx i hil]; exact h1, fun u q e => ?_⟩
    subst e
    cases u with
    | lst e xs =>
      obtain ⟨_, _, _, _, _, _, h6⟩ := h2
      exact h6 q rfl
    | pk e s =>
      obtain ⟨p2, h3, h4⟩ := l5.ok i _ _ _ _ (by rw [List.getElem?_append_left hil]; exact hi)
      rw [h1] at h3
      cases h3
      exact h4.2.2.2 q rfl
  · rcases fw.fg a h with h | h
    · exact S.fg a h
    · exact .inr (gG a h)
  · rw [List.nodup_append]
    exact ⟨S.nd, List.Sublist.nodup (List.take_sublist ..) l2, fun a ha b hb e => dis a ha (e ▸ hb)⟩
  · rcases List.mem_append.mp hp with hp | hp
    · by_cases z : p ∈ ps
      · exact l3 p (hps' p z)
      · cases h : H1 p with
        | none => exact absurd h (S.st p hp)
        | some o =>
          have nf : p ∉ foot ps ks L := fun y => by
            have := fresh p hp (restH_in y)
            exact z this
          rw [keep p nf o h]
          exact fun z => nomatch z
    · exact l3 p (List.mem_of_mem_take hp)
  · obtain ⟨o, h1, h2⟩ := S.sl i s h
    exact ⟨o, h1, (h2.mono fw.ff).append _⟩
  · show (putO sp.ob ks (zipT ts os) ++ ex).length = (ad ++ ad'.take ex.length).length
    rw [List.length_append, List.length_append, putO_len, S.olen, hxl]
  · rcases cls k o h with ⟨t, u, p, hk, h1, h2, h3, h4, h5⟩ | ⟨hk, hl, ho⟩ | ⟨hk, hl, hl2, ho⟩
    · subst h3
      have hz : (ex ++ zipA ps os)[ex.length + ks.idxOf k]? = some (u.at (some p)) := by
        rw [List.getElem?_append_right (by omega), Nat.add_sub_cancel_left]
        exact zipA_at h4 h2
      obtain ⟨p', k1, k2⟩ := l4 _ _ hz
      rw [at' _ _ h4] at k1
      cases k1
      have g := tg k t p hk h1 h5
      exact ⟨p, by rw [List.getElem?_append_left (getElem?_some_of h5)]; exact h5, at_retag k2 g.2.1 g.2.2⟩
    · obtain ⟨p, h1, h2⟩ := S.ob k o ho
      have nf := notin k p h1 hk
      refine ⟨p, by rw [List.getElem?_append_left hl]; exact h1, ?_⟩
      cases o with
      | dead => trivial
      | pk t e s => trivial
      | lst t e xs =>
        obtain ⟨vs, k1, k2, k3, k4, k5, k6⟩ := h2
        exact ⟨vs, keep p nf _ k1, k2, k3.mono fw.ff, non p nf k4 (by rw [k1]; exact fun z => nomatch z), k5, k6⟩
      | gen t e s =>
        obtain ⟨ho, k1, k2, k4, k5, k6⟩ := h2
        exact ⟨ho, keep p nf _ k1, e.mono fw.ff k2, non p nf k4 (by rw [k1]; exact fun z => nomatch z), k5, k6⟩
    · obtain ⟨p, h1, h2⟩ := l4 (k - ad.length) o (by rw [List.getElem?_append_left hl2]; exact ho)
      refine ⟨p, by rw [List.getElem?_append_right hl, adx _ hl2]; exact h1, ?_⟩
      cases o with
      | dead => trivial
      | pk t e s => trivial
      | lst t e xs =>
        obtain ⟨vs, k1, k2, k3, k4, k5, k6⟩ := h2
        exact ⟨vs, k1, k2, k3, k4, gG p k5, k6⟩
      | gen t e s =>
        obtain ⟨ho, k1, k2, k4, k5, k6⟩ := h2
        exact ⟨ho, k1, k2, k4, gG p k5, k6⟩
  · intro k q hq
    have hq : q ∈ (if k ∈ ks then L' (ex.length + ks.idxOf k) else if ad.length ≤ k ∧ k < ad.length + ex.length then L' (k - ad.length) else L k) := hq
    split at hq
    · have := new _ q hq
      exact ⟨this.1, this.2.1, this.2.2.1, this.2.2.2.1⟩
    · rename_i hk
      split at hq
      · have := new _ q hq
        exact ⟨this.1, this.2.1, this.2.2.1, this.2.2.2.1⟩
      · have := old k q hk hq
        exact ⟨this.1, this.2.1, this.2.2.1, this.2.2.2.1⟩
  · intro k q hq k' hq'
    have hq : q ∈ (if k ∈ ks then L' (ex.length + ks.idxOf k) else if ad.length ≤ k ∧ k < ad.length + ex.length then L' (k - ad.length) else L k) := hq
    have hq' : q ∈ (if k' ∈ ks then L' (ex.length + ks.idxOf k') else if ad.length ≤ k' ∧ k' < ad.length + ex.length then L' (k' - ad.length) else L k') := hq'
    have idxl : ∀ z ∈ ks, ks[ks.idxOf z]? = some z := fun z hz => idx_get hz
    split at hq
    · rename_i a1
      split at hq'
      · rename_i a2
        have e := l5.un _ q hq _ hq'
        have e : ks.idxOf k' = ks.idxOf k := by omega
        have e1 := idxl k a1
        have e2 := idxl k' a2
        rw [e, e1] at e2
        exact (Option.some.inj e2).symm
      · rename_i a2
        split at hq'
        · have e := l5.un _ q hq _ hq'
          omega
        · exact absurd (new _ q hq).2.2.2.2 (old k' q a2 hq').2.2.2.2
    · rename_i a1
      split at hq
      · rename_i b1
        split at hq'
        · have e := l5.un _ q hq _ hq'
          omega
        · rename_i a2
          split at hq'
          · have e := l5.un _ q hq _ hq'
            omega
          · exact absurd (new _ q hq).2.2.2.2 (old k' q a2 hq').2.2.2.2
      · split at hq'
        · exact absurd (new _ q hq').2.2.2.2 (old k q a1 hq).2.2.2.2
        · split at hq'
          · exact absurd (new _ q hq').2.2.2.2 (old k q a1 hq).2.2.2.2
          · exact W.un k q hq k' hq'
  · intro k
    show (if k ∈ ks then L' (ex.length + ks.idxOf k) else if ad.length ≤ k ∧ k < ad.length + ex.length then L' (k - ad.length) else L k).Nodup
    split
    · exact l5.nd _
    · split
      · exact l5.nd _
      · exact W.nd k
  · intro k α t e s h
    show ∃ p, (ad ++ ad'.take ex.length)[k]? = some p ∧ pkOk Z.G F' H' t e (if k ∈ ks then L' (ex.length + ks.idxOf k) else if ad.length ≤ k ∧ k < ad.length + ex.length then L' (k - ad.length) else L k) s p
    rcases cls k _ h with ⟨t', u, p, hk, h1, h2, h3, h4, h5⟩ | ⟨hk, hl, ho⟩ | ⟨hk, hl, hl2, ho⟩
    · rw [if_pos hk]
      cases u with
      | lst e' xs => cases h3
      | pk e' s' =>
        cases h3
        obtain ⟨p', k1, k2⟩ := l5.ok (ex.length + ks.idxOf k) _ (some p) e s (by
          rw [List.getElem?_append_right (by omega), Nat.add_sub_cancel_left]
          exact zipA_at h4 h2)
        rw [at' _ _ h4] at k1
        cases k1
        have g := tg k t p hk h1 h5
        exact ⟨p, by rw [List.getElem?_append_left (getElem?_some_of h5)]; exact h5, k2.1, k2.2.1, g.2.1, g.2.2⟩
    · rw [if_neg hk, if_neg (by omega)]
      obtain ⟨p, h1, h2⟩ := W.ok k _ t e s ho
      have nf := notin k p h1 hk
      have hst : H1 p ≠ none := S.st p (List.mem_of_getElem? h1)
      exact ⟨p, by rw [List.getElem?_append_left hl]; exact h1, h2.go fw.ff (fun q hq => keep q (notL k hk q hq)) (keep p nf) (non p nf h2.2.1 hst)⟩
    · rw [if_neg hk, if_pos (by omega)]
      obtain ⟨p, h1, h2⟩ := l5.ok (k - ad.length) _ t e s (by rw [List.getElem?_append_left hl2]; exact ho)
      exact ⟨p, by rw [List.getElem?_append_right hl, adx _ hl2]; exact h1, h2.1, h2.2.1, gG p h2.2.2.1, h2.2.2.2⟩
end
end Wk

set_option Elab.async false
set_option linter.all false
set_option maxRecDepth 100000
set_option maxHeartbeats 4000000
namespace Wk
open PySem PySem.Spec PyProof.Rows L2
section
variable {X : Cx} {Z : Fz} {sp : Spec X.K} {a b c e o : Expr} {es : List Expr} {pos p p2 fp apos : Pos} {α β γ δ ε ρ θ : Type} {k j : Nat} {x : Str} {F F' H H' : Hp} {ad : List Addr} {σ : Sg} {Qr : ρ → Prop} {D : Ends} {st : Stmt} {st' rest body : List Stmt} {m : Res ρ} {t : Option Addr} {tg it : Expr} {ks bk : List Nat} {dvs : List V}
/-! ### methods and makers, what is raised wished for at the caller's slots -/
def tMethW (C : Addr) (mn : Str) (spp : Sp) (dvs : List V) (E : Sg → XK) (ta : TE) (t : TA) : TE := fun σ H Q => ta σ H fun x H1 => ∃ a dx fs, x = .ref a ∧ H1 a = some (.ins C dx fs) ∧ fs.lookup mn = none ∧ t σ H1 fun vs H2 => spp (x :: (vs ++ dvs)) H2 Q (E σ)
theorem pe_methW {CX : CXT} {k : Nat} {C f : Addr} {fd : FuncData} {ps : List Str} {ds : List Value} {spp : Sp} {E : Sg → XK} {mn : Str} {ta : TE} {t : TA} {pl : Sem Bool} (he : PE X o ta) (c : Cls X.K C) (hm : Meth X.K C mn f) (F : FnOk X.prog X.w X.K X.mg X.base CX k f fd ps spp) (hr : Room k X.A) (hb : Binds X.K fd ps ds) (hd : Vals dvs ds) (hx : ∀ σ, PassesAt CX X σ (E σ)) (ha : PA X (e :: es) t)
    (hst : starEach (e :: es) X.env = (false, eval e X.env) :: starEach es X.env := by rfl) (hpl : (backTo pos (starEach es X.env)).any (·.1) = false := by rfl)
    (ht : eval (.Call (.Attribute o mn apos) (e :: es) [] pos) X.env = (do
      let ov ← eval o X.env
      standAt apos.atName
      let (f, first) ← holding [ov] (getMethod ov mn pl)
      callWith pos f first (backTo pos (starEach (e :: es) X.env)) (backToKw pos (keywordEach [] X.env))) := by rfl) :
    PE X (.Call (.Attribute o mn apos) (e :: es) [] pos) (tMethW C mn spp dvs E ta t) := by
  refine ⟨fun pins s σ H Q I h => ?_⟩
  refine PySem.W.methodCall_KW (pl := pl) (thn (he.run pins s σ H _ I h) fun u s1 ⟨x, H1, I1, rx, a, dx, fs, ex, ea, l, q⟩ => ?_) ht
  subst ex
  obtain rfl : u = Value.ref a := rx
  refine getmeth_ok I1 ea c hm l ?_
  refine PySem.W.callWith_K (first := [.ref a]) (h₀ := X.base) I.ok.mod.kin hm.kp (thn (ha.run pos pins s1 σ H1 _ I1 q) fun us s2 ⟨vs, H2, I2, r, q2⟩ => ⟨I2.kIn, ?_⟩) hst hpl
  exact run_fnSD (us := .ref a :: us) (vs := .ref a :: vs) F hr hb hd (hx σ) I2 (.cons rfl r) q2
theorem pe_methW0 {CX : CXT} {k : Nat} {C f : Addr} {fd : FuncData} {ps : List Str} {ds : List Value} {spp : Sp} {E : Sg → XK} {mn : Str} {ta : TE} {pl : Sem Bool} (he : PE X o ta) (c : Cls X.K C) (hm : Meth X.K C mn f) (F : FnOk X.prog X.w X.K X.mg X.base CX k f fd ps spp) (hr : Room k X.A) (hb : Binds X.K fd ps ds) (hd : Vals dvs ds) (hx : ∀ σ, PassesAt CX X σ (E σ))
    (ht : eval (.Call (.Attribute o mn apos) [] [] pos) X.env = (do
      let ov ← eval o X.env
      standAt apos.atName
      let (f, first) ← holding [ov] (getMethod ov mn pl)
      callWith pos f first (backTo pos (starEach [] X.env)) (backToKw pos (keywordEach [] X.env))) := by rfl) :
    PE X (.Call (.Attribute o mn apos) [] [] pos) (tMethW C mn spp dvs E ta tNil) := by
  refine ⟨fun pins s σ H Q I h => ?_⟩
  refine PySem.W.methodCall_KW (pl := pl) (thn (he.run pins s σ H _ I h) fun u s1 ⟨x, H1, I1, rx, a, dx, fs, ex, ea, l, q⟩ => ?_) ht
  subst ex
  obtain rfl : u = Value.ref a := rx
  refine getmeth_ok I1 ea c hm l ?_
  exact PySem.W.callWith_K0 (first := [.ref a]) I1.kIn hm.kp (run_fnSD (us := [.ref a]) (vs := [.ref a]) F hr hb hd (hx σ) I1 (.cons rfl .nil) q)
/-! ### a call in P-mode -/
/-- what comes of it -/
structure Out (X : Cx) (Z : Fz) (sp : Spec X.K) (R : RtP X.K θ) (ks : List Nat) (F : Hp) (ad : List Addr) (H : Hp) (σ : Sg) (r : θ) (Q : VK) (W : WX) : Prop where
  go : ∀ F1 H1 F' H' ps L, Nx F H F1 H1 → LfW Z.G F H ad sp.ob L → Paired (fun k p => ad[k]? = some p) ks ps → ps.Nodup → Fwd F1 (restH H1 (foot ps ks L)) F' H' →
    (∀ v, R.ret (restH H1 (foot ps ks L)) F' H' ps v r → Q v H') ∧ ∀ c C, R.exc (restH H1 (foot ps ks L)) F' H' ps c r → X.mg c = some (.ref C) → W (.ref C) none σ H'
def CPJ (X : Cx) (Z : Fz) (sp : Spec X.K) (ce : Expr) {θ : Type} (m : Res θ) (R : RtP X.K θ) (ks : List Nat) : Prop :=
  ∀ (F : Hp) (ad : List Addr) (σ : Sg) (H : Hp) (Q : VK) (W : WX), SOk Z F ad sp σ H → Takes X W → mwp m (fun r => Out X Z sp R ks F ad H σ r Q W) Z.Er → wE X ce σ H Q
theorem mwp.nxF {m : Res α} {Q : α → Prop} {Er : Str → Prop} (h : mwp m.nx Q Er) : mwp m Q (fun _ => False) := by
  cases m with
  | ok a => exact h
  | exc c => exact h.elim
  | bad => exact h
theorem fr_rest {F1 H1 : Hp} {ps : List Addr} {L : Nat → List Addr} (h : ∀ p ∈ foot ps ks L, F1 p = none ∧ Z.G p = none) (fh : Same F1 H1) (gh : Same Z.G H1) : Same F1 (restH H1 (foot ps ks L)) ∧ Same Z.G (restH H1 (foot ps ks L)) ∧ Same (restH H1 (foot ps ks L)) H1 := by
  refine ⟨fun a o z => ?_, fun a o z => ?_, fun a o z => ?_⟩
  · have : a ∉ foot ps ks L := fun y => by rw [(h a y).1] at z; cases z
    rw [restH_out this]
    exact fh _ _ z
  · have : a ∉ foot ps ks L := fun y => by rw [(h a y).2] at z; cases z
    rw [restH_out this]
    exact gh _ _ z
  · by_cases y : a ∈ foot ps ks L
    · rw [restH_in y] at z
      cases z
    · rw [restH_out y] at z
      exact z
theorem foot_free {F1 H1 : Hp} {ps : List Addr} {L : Nat → List Addr} {os : List (OT X.K)} (S : SOk Z F1 ad sp σ H1) (W : LfW Z.G F1 H1 ad sp.ob L) (pk : Paired (fun k p => ad[k]? = some p) ks ps) (km : KsM sp.ob ks os) (hl : os.length = ps.length) : ∀ p ∈ foot ps ks L, F1 p = none ∧ Z.G p = none := fun p hp => by
  rcases List.mem_append.mp hp with h | h
  · obtain ⟨i, hi⟩ := List.mem_iff_getElem?.mp h
    have hil := getElem?_some_of hi
    have hkl := Paired.length pk
    obtain ⟨k, t, h1, h2⟩ := km i os[i] (List.getElem?_eq_getElem (by omega))
    obtain ⟨p', h3, h4⟩ := ksP_get pk h1
    rw [hi] at h3
    cases h3
    have := S.atP h2 h4
    exact ⟨this.1, this.2.1⟩
  · obtain ⟨k, _, hq⟩ := List.mem_flatMap.mp h
    exact ⟨(W.di k p hq).2.1, (W.di k p hq).2.2.1⟩
/-- where the things handed in stand, and what they hold -/
theorem lf_in {F1 H1 G : Hp} {ps : List Addr} {L : Nat → List Addr} {os : List (OT X.K)} (S : SOk Z F1 ad sp σ H1) (W : LfW Z.G F1 H1 ad sp.ob L) (pk : Paired (fun k p => ad[k]? = some p) ks ps) (nk : ks.Nodup) (km : KsM sp.ob ks os) (hl : os.length = ps.length) (hg : ∀ p ∈ foot ps ks L, G p = none) :
    LfW G F1 H1 ps (zipA ps os) (fun i => match ks[i]? with | some k => L k | none => []) := by
  have hkl := Paired.length pk
  have psad : ∀ p ∈ ps, p ∈ ad := fun p hp => by
    obtain ⟨k, _, h⟩ := ksP_mem pk p hp
    exact List.mem_of_getElem? h
  refine ⟨fun i q hq => ?_, fun i q hq i' hq' => ?_, fun i => ?_, fun i α t e s h => ?_⟩
  · split at hq
    · rename_i k hk
      have d := W.di k q hq
      exact ⟨fun z => d.1 (psad q z), d.2.1, hg q (List.mem_append_right _ (List.mem_flatMap.mpr ⟨k, List.mem_of_getElem? hk, hq⟩)), d.2.2.2⟩
    · simp at hq
  · split at hq
    · rename_i k hk
      split at hq'
      · rename_i k' hk'
        have e := W.un k q hq k' hq'
        subst e
        have a1 := getElem?_some_of hk
        have a2 := getElem?_some_of hk'
        rw [List.getElem?_eq_getElem a1] at hk
        rw [List.getElem?_eq_getElem a2] at hk'
        exact (List.getElem_inj nk).mp ((Option.some.inj hk').trans (Option.some.inj hk).symm)
      · simp at hq'
    · simp at hq
  · split
    · exact W.nd _
    · exact List.nodup_nil
  · obtain ⟨p, u, h1, h2, h3⟩ := zipA_get h
    obtain ⟨k, t', h4, h5⟩ := km i u h2
    obtain ⟨p', h6, h7⟩ := ksP_get pk h4
    rw [h1] at h6
    cases h6
    refine ⟨p, h1, ?_⟩
    cases u with
    | lst e' xs => cases h3
    | pk e' s' =>
      cases h3
      obtain ⟨p2, h8, h9⟩ := W.ok k _ t' e s h5
      rw [h7] at h8
      cases h8
      rw [h4]
      exact ⟨h9.1, h9.2.1, hg p (List.mem_append_left _ (List.mem_of_getElem? h1)), fun q hq => Option.some.inj hq⟩
/-- the promise, made use of -/
theorem nin_foot {q : Addr} {ps : List Addr} {L : Nat → List Addr} (S : SOk Z F ad sp σ H) (W : LfW Z.G F H ad sp.ob L) (pk : Paired (fun k p => ad[k]? = some p) ks ps) (h : ad[k]? = some q) (hk : k ∉ ks) : q ∉ foot ps ks L := fun z => by
  rcases List.mem_append.mp z with z | z
  · exact nd_ks S.nd h hk pk z
  · obtain ⟨k', _, hq⟩ := List.mem_flatMap.mp z
    exact (W.di k' q hq).1 (List.mem_of_getElem? h)
theorem out_sp {A : ArP X.K γ} {mf : γ → Res θ} {R : RtP X.K θ} {g : γ} {F1 H1 : Hp} {ps : List Addr} {ws : List V} {Q : VK} {W : WX} (S : SOk Z F ad sp σ H) (n : Nx F H F1 H1) (pk : Paired (fun k p => ad[k]? = some p) ks ps) (nd : ps.Nodup) (nk : ks.Nodup) (km : KsM sp.ob ks (A.ob g)) (hl : (A.ob g).length = ps.length) {bs : List Addr} (pb : Paired (fun k p => ad[k]? = some p) bk bs) (hbk : ∀ k ∈ bk, k ∉ ks)
    (hrep : ∀ G H2, Same F1 G → Same Z.G G → Same H1 H2 → (∀ p ∈ ps, G p = none) → (∀ q ∈ bs, ∀ o, H1 q = some o → G q = some o) → A.rep F1 G H2 ps ws g) (hm : mwp (mf g) (fun r => Out X Z sp R ks F ad H σ r Q W) (fun _ => False)) : spP X.mg A mf R ws H1 Q (WE W σ) := by
  obtain ⟨L, W0⟩ := S.lf
  have S1 := S.nx n
  have W1 := W0.nx n
  have ff := foot_free S1 W1 pk km hl
  obtain ⟨f1, f2, f3⟩ := fr_rest ff S1.fh S1.gh
  have psad : ∀ p ∈ ps, p ∈ ad := fun p hp => by
    obtain ⟨k, _, h⟩ := ksP_mem pk p hp
    exact List.mem_of_getElem? h
  refine ⟨F1, restH H1 (foot ps ks L), ps, _, g, S1.fh, f3, nd, fun p hp => S1.st p (psad p hp), hrep _ _ f1 f2 (Same.refl _) (fun p hp => restH_in (List.mem_append_left _ hp)) (fun q hq o ho => by
    obtain ⟨k, hk, h⟩ := ksP_mem pb q hq
    rw [restH_out (nin_foot S W0 pk h (hbk k hk))]
    exact ho), lf_in S1 W1 pk nk km hl (fun p hp => restH_in hp), hm.imp2 (fun r q => ?_) fun _ z => z⟩
  exact ⟨fun F' H' v fw hr => (q.go F1 H1 F' H' ps L n W0 pk nd fw).1 v hr, fun c C F' H' fw hr hC => (q.go F1 H1 F' H' ps L n W0 pk nd fw).2 c C hr hC⟩
/-- f(..) -/
theorem cpj_call {A : ArP X.K γ} {mf : γ → Res θ} {R : RtP X.K θ} {ma : Res γ} (am : Amb X Z k) (C : Cal X.prog X.w X.K X.mg X.base x j (spP X.mg A mf R)) (hj : j ≤ k) (ha : APJ X Z sp (e :: es) ma A ks bk []) (nk : ks.Nodup := by decide) (hbk : ∀ k ∈ bk, k ∉ ks := by decide) (hn : nst e = true := by rfl) (hg : Gl X x := by rfl)
    (hpl : (backTo pos (starEach es X.env)).any (·.1) = false := by rfl) (hdb : (x == ("__debug__" : Str)) = false := by decide) (hol : ∀ g, (A.ob g).length = ks.length := by intro g; rfl) : CPJ X Z sp (.Call (.Name x fp) (e :: es) [] pos) (ma.bi fun g => (mf g).nx) R ks := fun F ad σ H Q W S tk hm => by
  obtain ⟨f, fd, qs, G, hmg, hk, hb⟩ := C.ex
  refine ofE (pe_callSD (E := WE W) G (am.hr.mono hj) hg hmg hk hb .nil (fun σ => passAt tk σ) pa_w hdb (star_cons hn) hpl) ?_
  refine ha F ad σ H _ S ((mwp.bi hm).imp fun g q F1 H1 vs ps bs n1 pk nd pb hrep km => ?_)
  exact out_sp S n1 pk nd nk km ((hol g).trans (Paired.length pk)) pb hbk hrep q.nxF
/-- a method, as it may be called -/
structure CalM (P : Program) (w : World) (K : Frag) (mg : Str → Option Value) (base : Heap) (C : Addr) (mn : Str) (k : Nat) (dvs : List V) (spp : Sp) : Prop where
  ex : ∃ f fd ps ds, FnOk P w K mg base (L2.CX P w) k f fd ps spp ∧ Cls K C ∧ Meth K C mn f ∧ Binds K fd ps ds ∧ Vals dvs ds
theorem lookup_zip_none {ns : List Str} {vs : List V} {mn : Str} (h : ns.contains mn = false) : (ns.zip vs).lookup mn = none := by
  induction ns generalizing vs with
  | nil => rfl
  | cons n ns ih =>
    cases vs with
    | nil => rfl
    | cons v vs =>
      rw [List.contains_cons, Bool.or_eq_false_iff] at h
      show (match mn == n with | true => some v | false => List.lookup mn (ns.zip vs)) = none
      rw [h.1]
      exact ih h.2
theorem ksM_own {ob : List (Ob X.K)} {E : PkE X.K α} {s : α} {ks : List Nat} {os : List (OT X.K)} (ho : ob[k]? = some (.pk t E s)) (km : KsM ob ks os) : KsM ob (k :: ks) (.pk E s :: os) := ksM_cons (t := t) ho km
section
variable {C : Addr} {ns : List Str} {vw : Vw X.K α} {s : α} {i q0 : Nat} {mn y : Str} {yp : Pos}
/-- y.m(..): y a thing of ours -/
theorem cpj_meth {A : ArP X.K γ} {mf : α × γ → Res θ} {R : RtP X.K θ} {ma : Res γ} (am : Amb X Z k) (Cm : CalM X.prog X.w X.K X.mg X.base C mn j dvs (spP X.mg (apP (pkI (.ins C ns) vw) A) mf R)) (hj : j ≤ k) (ha : APJ X Z sp (e :: es) ma A ks bk dvs) (hs : sp.sl[i]? = some (.own q0) := by rfl) (ho : sp.ob[q0]? = some (.pk t (pkI (.ins C ns) vw) s) := by rfl)
    (nk : (q0 :: ks).Nodup := by decide) (hbk : ∀ k ∈ bk, k ∉ q0 :: ks := by decide) (hmn : ns.contains mn = false := by decide) (hn : nst e = true := by rfl) (hpl : (backTo pos (starEach es X.env)).any (·.1) = false := by rfl) (hN : X.N[i]? = some y := by rfl)
    (hv : Vis X.env.scope y := by first | exact Or.inl rfl | exact Or.inr (Or.inl rfl) | exact Or.inr (Or.inr rfl)) (hd : (y == ("__debug__" : Str)) = false := by decide) (hcd : (y == ("__classdict__" : Str)) = false := by decide) (hol : ∀ g, (A.ob g).length = ks.length := by intro g; rfl)
    {pl : Sem Bool} (ht : eval (.Call (.Attribute (.Name y yp) mn apos) (e :: es) [] pos) X.env = (do
      let ov ← eval (.Name y yp) X.env
      standAt apos.atName
      let (f, first) ← holding [ov] (getMethod ov mn pl)
      callWith pos f first (backTo pos (starEach (e :: es) X.env)) (backToKw pos (keywordEach [] X.env))) := by rfl) :
    CPJ X Z sp (.Call (.Attribute (.Name y yp) mn apos) (e :: es) [] pos) (ma.bi fun g => (mf (s, g)).nx) R (q0 :: ks) := fun F ad σ H Q W S tk hm => by
  obtain ⟨f, fd, qs, ds, G, cl, me, hb, hds⟩ := Cm.ex
  refine ofE (pe_methW (E := WE W) (pl := pl) (pe_var (i := i) hN hv hd hcd) cl me G (am.hr.mono hj) hb hds (fun σ => passAt tk σ) pa_w (star_cons hn) hpl ht) ?_
  obtain ⟨o', h1, p0, h2, h3⟩ := S.sl i _ hs
  obtain ⟨q, L0, h4, W0, ⟨oo, us, k1, ⟨k2, dx, k3⟩, k4⟩, _⟩ := S.pk ho
  rw [h2] at h4
  cases h4
  subst k3
  refine ⟨.ref p0, by rw [h1, h3], p0, dx, _, rfl, k1, lookup_zip_none hmn, ?_⟩
  refine ha F ad σ H _ S ((mwp.bi hm).imp fun g q F1 H1 vs ps bs n1 pk nd pb hrep km => ?_)
  have pk' : Paired (fun k p => ad[k]? = some p) (q0 :: ks) (p0 :: ps) := .cons h2 pk
  have nd' : (p0 :: ps).Nodup := List.nodup_cons.mpr ⟨nd_ks S.nd h2 (List.nodup_cons.mp nk).1 pk, nd⟩
  refine out_sp (A := apP (pkI (.ins C ns) vw) A) (g := (s, g)) S n1 pk' nd' nk (ksM_own ho km) (by show (A.ob g).length + 1 = ps.length + 1; rw [hol g, Paired.length pk]) pb hbk (fun G H2 s1 s2 sh s3 s4 => ⟨p0, vs ++ dvs, ps, rfl, rfl, hrep G H2 s1 s2 sh (fun p hp => s3 p (List.mem_cons_of_mem _ hp)) s4⟩) q.nxF
theorem cpj_meth0 {A : ArP X.K γ} {mf : α × γ → Res θ} {R : RtP X.K θ} {g : γ} (am : Amb X Z k) (Cm : CalM X.prog X.w X.K X.mg X.base C mn j dvs (spP X.mg (apP (pkI (.ins C ns) vw) A) mf R)) (hj : j ≤ k) (ha : ∀ F G H, A.rep F G H [] dvs g) (hs : sp.sl[i]? = some (.own q0) := by rfl) (ho : sp.ob[q0]? = some (.pk t (pkI (.ins C ns) vw) s) := by rfl)
    (hmn : ns.contains mn = false := by decide) (hN : X.N[i]? = some y := by rfl)
    (hv : Vis X.env.scope y := by first | exact Or.inl rfl | exact Or.inr (Or.inl rfl) | exact Or.inr (Or.inr rfl)) (hd : (y == ("__debug__" : Str)) = false := by decide) (hcd : (y == ("__classdict__" : Str)) = false := by decide)
    {pl : Sem Bool} (ht : eval (.Call (.Attribute (.Name y yp) mn apos) [] [] pos) X.env = (do
      let ov ← eval (.Name y yp) X.env
      standAt apos.atName
      let (f, first) ← holding [ov] (getMethod ov mn pl)
      callWith pos f first (backTo pos (starEach [] X.env)) (backToKw pos (keywordEach [] X.env))) := by rfl) :
    CPJ X Z sp (.Call (.Attribute (.Name y yp) mn apos) [] [] pos) (mf (s, g)).nx R [q0] := fun F ad σ H Q W S tk hm => by
  obtain ⟨f, fd, qs, ds, G, cl, me, hb, hds⟩ := Cm.ex
  refine ofE (pe_methW0 (E := WE W) (pl := pl) (pe_var (i := i) hN hv hd hcd) cl me G (am.hr.mono hj) hb hds (fun σ => passAt tk σ) ht) ?_
  obtain ⟨o', h1, p0, h2, h3⟩ := S.sl i _ hs
  obtain ⟨q, L0, h4, W0, ⟨oo, us, k1, ⟨k2, dx, k3⟩, k4⟩, _⟩ := S.pk ho
  rw [h2] at h4
  cases h4
  subst k3
  refine ⟨.ref p0, by rw [h1, h3], p0, dx, _, rfl, k1, lookup_zip_none hmn, ?_⟩
  have hl : (A.ob g).length = 0 := ((A.ok (ha F F H)).2.2.1).symm
  exact out_sp (A := apP (pkI (.ins C ns) vw) A) (g := (s, g)) S S.refl (.cons h2 .nil) (by simp) (by simp) (ksM_own ho (by
    have : A.ob g = [] := List.length_eq_zero_iff.mp hl
    rw [this]
    exact ksM_nil)) (by show (A.ob g).length + 1 = 1; rw [hl]) (bk := []) .nil (fun k h => nomatch h) (fun G H2 s1 s2 sh s3 _ => ⟨p0, [] ++ dvs, [], rfl, rfl, ha _ _ _⟩) hm.nxF
end
end
end Wk

set_option Elab.async false
set_option linter.all false
set_option maxRecDepth 100000
set_option maxHeartbeats 4000000
namespace Wk
open PySem PySem.Spec PyProof.Rows L2
section
variable {X : Cx} {Z : Fz} {sp : Spec X.K} {a b c e o ce : Expr} {es : List Expr} {pos pos' p p2 fp apos : Pos} {α β γ δ ε ρ θ : Type} {k j i : Nat} {x y : Str} {F F' H H' : Hp} {ad : List Addr} {σ : Sg} {Qr : ρ → Prop} {D : Ends} {st : Stmt} {st' rest body : List Stmt} {m : Res ((β ⊕ Str) × δ)} {t : Option Addr} {tg it : Expr} {ks : List Nat} {ts : List (Option Addr)} {dvs : List V} {obs : δ → List (OT X.K)}
/-- what was raised, what was told -/
def outc (kv : β → δ → Res ρ) (kx : Str → δ → Res ρ) : (β ⊕ Str) × δ → Res ρ
  | (.inl v, d) => kv v d
  | (.inr c, d) => kx c d
inductive TagsP {K : Frag} (ob : List (Ob K)) : List Nat → List (Option Addr) → Prop
  | nil : TagsP ob [] []
  | cons {k : Nat} {ks : List Nat} {t : Option Addr} {ts : List (Option Addr)} {o : OT K} (h : ob[k]? = some (o.at t)) (r : TagsP ob ks ts) : TagsP ob (k :: ks) (t :: ts)
theorem TagsP.lst {K : Frag} {ob : List (Ob K)} {k : Nat} {ks : List Nat} {t : Option Addr} {ts : List (Option Addr)} {e : Enc K α} {xs : List α} (h : ob[k]? = some (.lst t e xs)) (r : TagsP ob ks ts) : TagsP ob (k :: ks) (t :: ts) := .cons (o := .lst e xs) h r
theorem TagsP.pk {K : Frag} {ob : List (Ob K)} {k : Nat} {ks : List Nat} {t : Option Addr} {ts : List (Option Addr)} {e : PkE K α} {s : α} (h : ob[k]? = some (.pk t e s)) (r : TagsP ob ks ts) : TagsP ob (k :: ks) (t :: ts) := .cons (o := .pk e s) h r
theorem TagsP.tm {K : Frag} {ob : List (Ob K)} {ks : List Nat} {ts : List (Option Addr)} (h : TagsP ob ks ts) : ts.length = ks.length ∧ ∀ (i k : Nat), ks[i]? = some k → ∃ t o, ts[i]? = some t ∧ ob[k]? = some (OT.at t o) := by
  induction h with
  | nil => exact ⟨rfl, fun i k h => by simp at h⟩
  | cons h r ih =>
    refine ⟨by simp [ih.1], fun i k hk => ?_⟩
    cases i with
    | zero =>
      simp at hk
      subst hk
      exact ⟨_, _, rfl, h⟩
    | succ i => exact ih.2 i k (by simpa using hk)
theorem SOk.tagPk {E : PkE X.K α} {s : α} (S : SOk Z F ad sp σ H) (ho : sp.ob[k]? = some (.pk t E s)) : SOk Z F ad ⟨sp.sl, sp.ob.set k (.pk none E s)⟩ σ H := by
  obtain ⟨L, W⟩ := S.lf
  refine ⟨S.f0, S.fh, S.gh, S.fg, S.nd, S.st, S.len, S.sl, by simp [S.olen], fun i o h => ?_, L, W.di, W.un, W.nd, fun i α' t' e' s' h => ?_⟩
  · have h : (sp.ob.set k (.pk none E s))[i]? = some o := h
    by_cases e : i = k
    · subst e
      rw [List.getElem?_set_self (getElem?_some_of ho)] at h
      cases h
      obtain ⟨p, h1, _⟩ := S.ob i _ ho
      exact ⟨p, h1, trivial⟩
    · rw [List.getElem?_set_ne (Ne.symm e)] at h
      exact S.ob i o h
  · have h : (sp.ob.set k (.pk none E s))[i]? = some (.pk t' e' s') := h
    by_cases e : i = k
    · subst e
      rw [List.getElem?_set_self (getElem?_some_of ho)] at h
      cases h
      obtain ⟨p, h1, h2⟩ := W.ok i _ _ _ _ ho
      exact ⟨p, h1, h2.1, h2.2.1, h2.2.2.1, fun _ z => nomatch z⟩
    · rw [List.getElem?_set_ne (Ne.symm e)] at h
      exact W.ok i _ _ _ _ h
theorem set_last {K : Frag} {ob : List (Ob K)} {o o' : Ob K} : (ob ++ [o]).set ob.length o' = ob ++ [o'] := by
  rw [List.set_append_right _ _ (Nat.le_refl _), Nat.sub_self]
  rfl
theorem get_last {K : Frag} {ob : List (Ob K)} {o : Ob K} : (ob ++ [o])[ob.length]? = some o := by simp
/-- the state behind it -/
theorem out_st {F1 H1 : Hp} {ps : List Addr} {L : Nat → List Addr} {d : δ} (S : SOk Z F ad sp σ H) (n : Nx F H F1 H1) (W0 : LfW Z.G F H ad sp.ob L) (pk : Paired (fun k p => ad[k]? = some p) ks ps) (nd : ps.Nodup) (nk : ks.Nodup) (tgs : TagsP sp.ob ks ts) (hol : (obs d).length = ks.length) (fw : Fwd F1 (restH H1 (foot ps ks L)) F' H') (op : obsP (restH H1 (foot ps ks L)) F' H' (zipA ps (obs d))) :
    ∃ ad', SOk Z F' ad' ⟨sp.sl, putO sp.ob ks (zipT ts (obs d))⟩ σ H' := by
  have hp := Paired.length pk
  obtain ⟨adx, h1, _, S'⟩ := SOk.afterP (ex := []) S n W0 pk nd nk tgs.tm.2 (hol.trans hp) (tgs.tm.1.trans hp) fw op (fun _ z => by simp at z)
  rw [List.append_nil] at S'
  exact ⟨_, S'⟩
theorem out_stN {F1 H1 : Hp} {ps : List Addr} {L : Nat → List Addr} {d : δ} {en : Enc X.K α} {xs : List α} {q : Addr} (S : SOk Z F ad sp σ H) (n : Nx F H F1 H1) (W0 : LfW Z.G F H ad sp.ob L) (pk : Paired (fun k p => ad[k]? = some p) ks ps) (nd : ps.Nodup) (nk : ks.Nodup) (tgs : TagsP sp.ob ks ts) (hol : (obs d).length = ks.length) (fw : Fwd F1 (restH H1 (foot ps ks L)) F' H') (op : obsP (restH H1 (foot ps ks L)) F' H' (.lst (some q) en xs :: zipA ps (obs d))) :
    ∃ ad', ad'[sp.ob.length]? = some q ∧ SOk Z F' ad' ⟨sp.sl, putO sp.ob ks (zipT ts (obs d)) ++ [.lst none en xs]⟩ σ H' := by
  have hp := Paired.length pk
  obtain ⟨adx, h1, h2, S'⟩ := SOk.afterP (ex := [.lst (some q) en xs]) S n W0 pk nd nk tgs.tm.2 (hol.trans hp) (tgs.tm.1.trans hp) fw op (fun _ z => by simp at z; rw [z]; exact fun z => nomatch z)
  obtain ⟨p, h3, h4⟩ := h2 0 _ rfl
  have e := h4 (.lst en xs) q rfl
  subst e
  have g : (ad ++ adx)[sp.ob.length]? = some p := by rw [S.olen, List.getElem?_append_right (Nat.le_refl _), Nat.sub_self]; exact h3
  have hl : (putO sp.ob ks (zipT ts (obs d))).length = sp.ob.length := putO_len
  have S2 := S'.tag (k := (putO sp.ob ks (zipT ts (obs d))).length) get_last (by rw [hl]; exact g) none (fun _ z => nomatch z)
  rw [set_last] at S2
  exact ⟨_, g, S2⟩
theorem out_stT {F1 H1 : Hp} {ps : List Addr} {L : Nat → List Addr} {d : δ} {E : PkE X.K α} {s : α} {q : Addr} (S : SOk Z F ad sp σ H) (n : Nx F H F1 H1) (W0 : LfW Z.G F H ad sp.ob L) (pk : Paired (fun k p => ad[k]? = some p) ks ps) (nd : ps.Nodup) (nk : ks.Nodup) (tgs : TagsP sp.ob ks ts) (hol : (obs d).length = ks.length) (fw : Fwd F1 (restH H1 (foot ps ks L)) F' H') (op : obsP (restH H1 (foot ps ks L)) F' H' (.pk (some q) E s :: zipA ps (obs d))) :
    ∃ ad', ad'[sp.ob.length]? = some q ∧ SOk Z F' ad' ⟨sp.sl, putO sp.ob ks (zipT ts (obs d)) ++ [.pk none E s]⟩ σ H' := by
  have hp := Paired.length pk
  obtain ⟨adx, h1, h2, S'⟩ := SOk.afterP (ex := [.pk (some q) E s]) S n W0 pk nd nk tgs.tm.2 (hol.trans hp) (tgs.tm.1.trans hp) fw op (fun _ z => by simp at z; rw [z]; exact fun z => nomatch z)
  obtain ⟨p, h3, h4⟩ := h2 0 _ rfl
  have e := h4 (.pk E s) q rfl
  subst e
  have g : (ad ++ adx)[sp.ob.length]? = some p := by rw [S.olen, List.getElem?_append_right (Nat.le_refl _), Nat.sub_self]; exact h3
  have S2 := SOk.tagPk (k := (putO sp.ob ks (zipT ts (obs d))).length) S' get_last
  rw [set_last] at S2
  exact ⟨_, g, S2⟩
/-! ### what is raised -/
def XH (X : Cx) (Z : Fz) {ρ δ : Type} (Qr : ρ → Prop) (spx : δ → Spec X.K) (kx : Str → δ → Res ρ) : Prop := ∃ W : WX, Takes X W ∧ ∀ c d F ad σ H C, SOk Z F ad (spx d) σ H → mwp (kx c d) Qr Z.Er → X.mg c = some (.ref C) → W (.ref C) none σ H
variable {spx : δ → Spec X.K}
theorem xh_bad : XH X Z Qr spx (fun _ _ => .bad) := ⟨fun _ _ _ _ => False, takes0, fun _ _ _ _ _ _ _ _ h _ => h⟩
theorem xh_exc (am : Amb X Z k) : XH X Z Qr spx (fun c _ => .exc c) := by
  obtain ⟨E, tk, hE⟩ := am.ps
  exact ⟨_, tk, fun c d F ad σ H C S h hC => hE c h C H hC S.gh⟩
theorem xh_P {obs' : ε → List (OT X.K)} {kk : ResK X.K θ} {qs : List Addr} {ks' : List Nat} {Qr : (θ ⊕ Str) × ε → Prop} (hX : XTP X Z (rpR kk obs') qs Qr) (sel : δ → ε) (lo : ∀ d, LeO (spx d).ob ks' (zipA qs (obs' (sel d)))) (hn : ks'.Nodup := by decide) : XH X Z Qr spx (fun c d => .ok (.inr c, sel d)) := by
  obtain ⟨E, tk, hE⟩ := hX
  exact ⟨_, tk, fun c d F ad σ H C S h hC => hE (.inr c, sel d) c C F H S.fwdP ⟨rfl, obsP_of S (lo d) hn⟩ h hC⟩
theorem mwp_out {kv : β → δ → Res ρ} {kx : Str → δ → Res ρ} {Er : Str → Prop} (h : mwp (m.bi (outc kv kx)) Qr Er) : mwp m (fun r => match r with | (.inl v, d) => mwp (kv v d) Qr Er | (.inr c, d) => mwp (kx c d) Qr Er) Er := h.bi.imp fun r q => by
  obtain ⟨r, d⟩ := r
  cases r with
  | inl v => exact q
  | inr c => exact q
/-! ### statements -/
section
variable {en : Enc X.K β} {kv : β → δ → Res ρ} {kx : Str → δ → Res ρ}
theorem bj_cx (cp : CPJ X Z sp ce m (rpR (kV en) obs) ks) (tgs : TagsP sp.ob ks ts) (hr : ∀ v d, BJ X Z Qr D ⟨sp.sl, putO sp.ob ks (zipT ts (obs d))⟩ rest (kv v d)) (xh : XH X Z Qr (fun d => ⟨sp.sl, putO sp.ob ks (zipT ts (obs d))⟩) kx) (nk : ks.Nodup := by decide) (hol : ∀ d, (obs d).length = ks.length := by intro d; rfl)
    (hw : swapsWith ce none pos'.line X.env = pure false := by rfl) : BJ X Z Qr D sp (.Expr ce pos' :: rest) (m.bi (outc kv kx)) := fun F ad σ H S hm => by
  obtain ⟨W, tk, hW⟩ := xh
  refine seq (ofS (ps_expr pe_w hw) ?_)
  refine cp F ad σ H _ W S tk ((mwp_out hm).imp fun r q => ⟨fun F1 H1 F' H' ps L n W0 pk nd fw => ⟨fun v hr' => ?_, fun c C hx hC => ?_⟩⟩)
  · obtain ⟨b, e1, hb, op⟩ := hr'
    obtain ⟨r1, d⟩ := r
    have e1 : r1 = .inl b := e1
    subst e1
    obtain ⟨ad', S'⟩ := out_st (obs := obs) S n W0 pk nd nk tgs (hol d) fw op
    exact hr b d F' ad' σ H' S' q
  · obtain ⟨e1, op⟩ := hx
    obtain ⟨r1, d⟩ := r
    have e1 : r1 = .inr c := e1
    subst e1
    obtain ⟨ad', S'⟩ := out_st (obs := obs) S n W0 pk nd nk tgs (hol d) fw op
    exact hW c d F' ad' σ H' C S' q hC
/-- y = .., a value -/
theorem bj_ca {py : Pos} (am : Amb X Z k) (cp : CPJ X Z sp ce m (rpR (kV en) obs) ks) (tgs : TagsP sp.ob ks ts) (hr : ∀ v d, BJ X Z Qr D ⟨sp.sl.set i (.val en v), putO sp.ob ks (zipT ts (obs d))⟩ rest (kv v d)) (xh : XH X Z Qr (fun d => ⟨sp.sl, putO sp.ob ks (zipT ts (obs d))⟩) kx) (nk : ks.Nodup := by decide) (hol : ∀ d, (obs d).length = ks.length := by intro d; rfl)
    (hi : X.N[i]? = some y := by rfl) (hx : Loc X.env.scope y := by first | exact Or.inl rfl | exact Or.inr rfl)
    (hs : swapsWith ce (some (.Name y py)) pos'.line X.env = pure false := by rfl) (hf : X.fn y = true ∨ X.env.scope.names.lookup y = some .local := by first | exact .inl rfl | exact .inr rfl) : BJ X Z Qr D sp (.Assign [.Name y py] ce pos' :: rest) (m.bi (outc kv kx)) := fun F ad σ H S hm => by
  obtain ⟨W, tk, hW⟩ := xh
  refine seq (ofS (ps_set am.nd hi hx pe_w hs hf) ?_)
  refine cp F ad σ H _ W S tk ((mwp_out hm).imp fun r q => ⟨fun F1 H1 F' H' ps L n W0 pk nd fw => ⟨fun v hr' => ?_, fun c C hx hC => ?_⟩⟩)
  · obtain ⟨b, e1, hb, op⟩ := hr'
    obtain ⟨r1, d⟩ := r
    have e1 : r1 = .inl b := e1
    subst e1
    obtain ⟨ad', S'⟩ := out_st (obs := obs) S n W0 pk nd nk tgs (hol d) fw op
    exact hr b d F' ad' _ H' (S'.set ⟨v, rfl, hb⟩) q
  · obtain ⟨e1, op⟩ := hx
    obtain ⟨r1, d⟩ := r
    have e1 : r1 = .inr c := e1
    subst e1
    obtain ⟨ad', S'⟩ := out_st (obs := obs) S n W0 pk nd nk tgs (hol d) fw op
    exact hW c d F' ad' σ H' C S' q hC
/-- return .., a value -/
theorem bj_cr {obs' : ε → List (OT X.K)} {qs : List Addr} {ks' : List Nat} {Qr : (β ⊕ Str) × ε → Prop} (sel : δ → ε) (hR : RTP Z (rpR (kV en) obs') qs Qr D.rt) (hX : XTP X Z (rpR (kV en) obs') qs Qr) (cp : CPJ X Z sp ce m (rpR (kV en) obs) ks) (tgs : TagsP sp.ob ks ts) (lo : ∀ d, LeO (putO sp.ob ks (zipT ts (obs d))) ks' (zipA qs (obs' (sel d)))) (nk : ks.Nodup := by decide) (hn : ks'.Nodup := by decide) (hol : ∀ d, (obs d).length = ks.length := by intro d; rfl) :
    BJ X Z Qr D sp (.Return (some ce) pos :: rest) (m.bi fun r => .ok (r.1, sel r.2)) := fun F ad σ H S hm => by
  obtain ⟨E, tk, hE⟩ := hX
  refine seq (ofS (ps_ret pe_w) ?_)
  refine cp F ad σ H _ _ S tk (hm.bi.imp fun r q => ⟨fun F1 H1 F' H' ps L n W0 pk nd fw => ⟨fun v hr' => ?_, fun c C hx hC => ?_⟩⟩)
  · obtain ⟨b, e1, hb, op⟩ := hr'
    obtain ⟨r1, d⟩ := r
    have e1 : r1 = .inl b := e1
    subst e1
    obtain ⟨ad', S'⟩ := out_st (obs := obs) S n W0 pk nd nk tgs (hol d) fw op
    exact hR (.inl b, sel d) F' H' v S'.fwdP ⟨b, rfl, hb, obsP_of S' (lo d) hn⟩ q
  · obtain ⟨e1, op⟩ := hx
    obtain ⟨r1, d⟩ := r
    have e1 : r1 = .inr c := e1
    subst e1
    obtain ⟨ad', S'⟩ := out_st (obs := obs) S n W0 pk nd nk tgs (hol d) fw op
    exact hE (.inr c, sel d) c C F' H' S'.fwdP ⟨rfl, obsP_of S' (lo d) hn⟩ q hC
end
/-- y = .., a new list -/
theorem bj_caN {en : Enc X.K α} {kv : List α → δ → Res ρ} {kx : Str → δ → Res ρ} {m : Res ((List α ⊕ Str) × δ)} {py : Pos} (am : Amb X Z k) (cp : CPJ X Z sp ce m (rpR (kN en) obs) ks) (tgs : TagsP sp.ob ks ts) (hr : ∀ v d, BJ X Z Qr D ⟨sp.sl.set i (.own sp.ob.length), putO sp.ob ks (zipT ts (obs d)) ++ [.lst none en v]⟩ rest (kv v d)) (xh : XH X Z Qr (fun d => ⟨sp.sl, putO sp.ob ks (zipT ts (obs d))⟩) kx) (nk : ks.Nodup := by decide) (hol : ∀ d, (obs d).length = ks.length := by intro d; rfl)
    (hi : X.N[i]? = some y := by rfl) (hx : Loc X.env.scope y := by first | exact Or.inl rfl | exact Or.inr rfl)
    (hs : swapsWith ce (some (.Name y py)) pos'.line X.env = pure false := by rfl) (hf : X.fn y = true ∨ X.env.scope.names.lookup y = some .local := by first | exact .inl rfl | exact .inr rfl) : BJ X Z Qr D sp (.Assign [.Name y py] ce pos' :: rest) (m.bi (outc kv kx)) := fun F ad σ H S hm => by
  obtain ⟨W, tk, hW⟩ := xh
  refine seq (ofS (ps_set am.nd hi hx pe_w hs hf) ?_)
  refine cp F ad σ H _ W S tk ((mwp_out hm).imp fun r q => ⟨fun F1 H1 F' H' ps L n W0 pk nd fw => ⟨fun v hr' => ?_, fun c C hx hC => ?_⟩⟩)
  · obtain ⟨b, e1, ⟨p0, rfl⟩, op⟩ := hr'
    obtain ⟨r1, d⟩ := r
    have e1 : r1 = .inl b := e1
    subst e1
    obtain ⟨ad', hp, S'⟩ := out_stN (obs := obs) S n W0 pk nd nk tgs (hol d) fw op
    exact hr b d F' ad' _ H' (S'.set ⟨p0, hp, rfl⟩) q
  · obtain ⟨e1, op⟩ := hx
    obtain ⟨r1, d⟩ := r
    have e1 : r1 = .inr c := e1
    subst e1
    obtain ⟨ad', S'⟩ := out_st (obs := obs) S n W0 pk nd nk tgs (hol d) fw op
    exact hW c d F' ad' σ H' C S' q hC
/-! ### made anew -/
def tMakeW (C : Addr) (spp : Sp) (dvs : List V) (E : Sg → XK) (t : TA) : TE := fun σ H Q => t σ H fun vs H1 => ∀ x dx, H1 x = none → H1 dx = none → dx ≠ x →
  spp (.ref x :: (vs ++ dvs)) (L2.upd (L2.upd H1 dx (.own x)) x (.ins C dx [])) (fun v H2 => v = .non ∧ Q (.ref x) H2) (E σ)
/-- a class, as it may be made -/
structure CalK (P : Program) (w : World) (K : Frag) (mg : Str → Option Value) (base : Heap) (x : Str) (C : Addr) (k : Nat) (dvs : List V) (spp : Sp) : Prop where
  ex : ∃ f fd ps ds, FnOk P w K mg base (L2.CX P w) k f fd ps spp ∧ Mk K C f ∧ mg x = some (.ref C) ∧ Binds K fd ps ds ∧ Vals dvs ds
theorem passes_W {E : XK} (tk : Takes X (fun cls d _ H => E cls d H)) : Passes (L2.CX X.prog X.w) X E := fun pins σ H s e s' I c => passAt tk σ pins H s e s' I c
/-- x(..), told for a name: raised is what E says -/
theorem pb_mem {ad : List Addr} : ∀ {bk : List Nat} {bs : List Addr}, Paired (fun k p => ad[k]? = some p) bk bs → ∀ k ∈ bk, ∃ p, ad[k]? = some p
  | _, _, .nil, k, hk => by cases hk
  | _, _, .cons r t, k, hk => by
    rcases List.mem_cons.mp hk with e | hk
    · subst e
      exact ⟨_, r⟩
    · exact pb_mem t k hk
theorem mk_core {bk : List Nat} {A : ArP X.K γ} {mf : Unit × γ → Res ((Unit ⊕ Str) × δ)} {E0 : δ → OT X.K} {ma : Res γ} {C : Addr} {W : XK} (am : Amb X Z k) (Ck : CalK X.prog X.w X.K X.mg X.base x C j dvs (spP X.mg (apP (pkI (.ins C []) (fun _ => [])) A) mf (rpR (kV (eU : Enc X.K Unit)) (fun d => [E0 d])))) (hj : j + 1 ≤ k) (ha : APJ X Z sp (e :: es) ma A [] bk dvs) (hn : nst e = true) (hg : Gl X x)
    (hpl : (backTo pos (starEach es X.env)).any (·.1) = false) (hdb : (x == ("__debug__" : Str)) = false) (hol : ∀ g, A.ob g = []) (tk : Takes X (fun cls d _ H => W cls d H)) (F : Hp) (ad : List Addr) (σ : Sg) (H : Hp) (Q : VK) (S : SOk Z F ad sp σ H)
    (hm : mwp (ma.bi fun g => (mf ((), g)).nx) (fun r => ∀ F' ad' H' q, SOk Z F' ad' ⟨sp.sl, sp.ob ++ [(E0 r.2).at none]⟩ σ H' → ad'[sp.ob.length]? = some q → (r.1 = .inl () → Q (.ref q) H') ∧ ∀ c C, r.1 = .inr c → X.mg c = some (.ref C) → W (.ref C) none H') Z.Er) : wE X (.Call (.Name x fp) (e :: es) [] pos) σ H Q := by
  obtain ⟨f, fd, qs, ds, G, mk, hmg, hb, hds⟩ := Ck.ex
  refine ofE (pe_make (E := W) mk G (am.hr.mono hj) hg hmg hb hds (passes_W tk) pa_w hdb (star_cons hn) hpl) ?_
  refine ha F ad σ H _ S ((mwp.bi hm).imp fun g q F1 H1 vs ps bs n1 pk nd pb hrep km => ?_)
  intro x0 dx hx hdx hne
  cases pk
  have S1 := S.nx n1
  have hx' : (L2.upd H1 dx (.own x0)) x0 = none := by rw [upd_ne hne.symm]; exact hx
  have n2 : Nx F1 H1 F1 (L2.upd (L2.upd H1 dx (.own x0)) x0 (.ins C dx [])) := (S1.refl.new hdx).new hx'
  have S2 := S1.pushPk (E := pkI (.ins C []) (fun _ : Unit => [])) (s := ()) (q := x0) (l := []) n2 ⟨_, [], upd_same, ⟨rfl, dx, rfl⟩, .nil⟩ (by simp) (fun y hy => by
    rw [List.mem_singleton] at hy
    subst hy
    exact ⟨hx, S1.fh.free hx, by rw [upd_same]; exact fun z => nomatch z⟩)
  have hadl : (ad ++ [x0])[sp.ob.length]? = some x0 := by rw [S.olen]; simp
  have go := out_sp (A := apP (pkI (.ins C []) (fun _ : Unit => [])) A) (mf := mf) (R := rpR (kV (eU : Enc X.K Unit)) (fun d => [E0 d])) (g := ((), g)) (ks := [sp.ob.length]) (ps := [x0]) (ws := .ref x0 :: (vs ++ dvs)) (Q := fun v H2 => v = .non ∧ Q (.ref x0) H2) (W := fun cls d _ H => W cls d H) S2 S2.refl (.cons hadl .nil) (by simp) (by simp)
    (ksM_cons (t := none) (o := .pk _ ()) get_last (by rw [hol g]; exact ksM_nil)) (by show (A.ob g).length + 1 = 1; rw [hol g]; rfl)
    (bk := bk) (bs := bs) (Paired.imp (fun k p h => by rw [List.getElem?_append_left (getElem?_some_of h)]; exact h) pb) (fun k hk z => by
      rw [List.mem_singleton] at z
      obtain ⟨p, hp⟩ := pb_mem pb k hk
      have h1 := getElem?_some_of hp
      have h2 := S.olen
      omega)
    (fun G' H2 s1 s2 sh s3 s4 => ⟨x0, vs ++ dvs, [], rfl, rfl, hrep G' H2 s1 s2 (n2.hh.trans sh) (fun p hp => by simp at hp) (fun q hq o ho => s4 q hq o (n2.hh _ _ ho))⟩) (q.nxF.imp2 (fun r qr => ⟨fun F3 H3 F' H' ps L n W0 pk nd fw => ?_⟩) fun _ z => z)
  · exact go
  · obtain ⟨r1, d⟩ := r
    have fin : ∀ op : obsP (restH H3 (foot ps [sp.ob.length] L)) F' H' (zipA ps [E0 d]), ∃ ad', SOk Z F' ad' ⟨sp.sl, sp.ob ++ [(E0 d).at none]⟩ σ H' ∧ ad'[sp.ob.length]? = some x0 := fun op => by
      have hp := Paired.length pk
      obtain ⟨adx, h1, h2, S'⟩ := SOk.afterP (ex := []) S2 n W0 pk nd (by simp) (ts := [none]) (TagsP.tm (.pk (e := pkI (.ins C []) (fun _ : Unit => [])) (s := ()) (ob := sp.ob ++ [.pk none (pkI (.ins C []) (fun _ : Unit => [])) ()]) get_last .nil)).2 (os := [E0 d]) hp hp fw op (fun _ z => by simp at z)
      refine ⟨ad ++ [x0] ++ adx, ?_, by rw [List.getElem?_append_left (getElem?_some_of hadl)]; exact hadl⟩
      have e : putO (sp.ob ++ [Ob.pk none (pkI (.ins C []) (fun _ : Unit => [])) ()]) [sp.ob.length] (zipT [none] [E0 d]) ++ [] = sp.ob ++ [(E0 d).at none] := by
        rw [List.append_nil]
        exact set_last
      have S' : SOk Z F' (ad ++ [x0] ++ adx) ⟨sp.sl, putO (sp.ob ++ [Ob.pk none (pkI (.ins C []) (fun _ : Unit => [])) ()]) [sp.ob.length] (zipT [none] [E0 d]) ++ []⟩ σ H' := S'
      rw [e] at S'
      exact S'
    refine ⟨fun v hr' => ?_, fun c C' hx' hC => ?_⟩
    · obtain ⟨b, e1, hb', op⟩ := hr'
      obtain ⟨ad', S', h5⟩ := fin op
      exact ⟨hb', (qr F' ad' H' x0 S' h5).1 e1⟩
    · obtain ⟨e1, op⟩ := hx'
      obtain ⟨ad', S', h5⟩ := fin op
      exact (qr F' ad' H' x0 S' h5).2 c C' e1 hC
/-- y = x(..) -/
theorem bj_mk {bk : List Nat} {A : ArP X.K γ} {mf : Unit × γ → Res ((Unit ⊕ Str) × δ)} {E0 : δ → OT X.K} {ma : Res γ} {C : Addr} {kv : δ → Res ρ} {kx : Str → Res ρ} {py : Pos} (am : Amb X Z k) (Ck : CalK X.prog X.w X.K X.mg X.base x C j dvs (spP X.mg (apP (pkI (.ins C []) (fun _ => [])) A) mf (rpR (kV (eU : Enc X.K Unit)) (fun d => [E0 d])))) (hj : j + 1 ≤ k) (ha : APJ X Z sp (e :: es) ma A [] bk dvs)
    (hr : ∀ d, BJ X Z Qr D ⟨sp.sl.set i (.own sp.ob.length), sp.ob ++ [(E0 d).at none]⟩ rest (kv d)) (xh : kx = (fun _ => .bad) ∨ kx = .exc) (hn : nst e = true := by rfl) (hg : Gl X x := by rfl)
    (hpl : (backTo pos (starEach es X.env)).any (·.1) = false := by rfl) (hdb : (x == ("__debug__" : Str)) = false := by decide) (hol : ∀ g, A.ob g = [] := by intro g; rfl)
    (hi : X.N[i]? = some y := by rfl) (hx : Loc X.env.scope y := by first | exact Or.inl rfl | exact Or.inr rfl)
    (hs : swapsWith (.Call (.Name x fp) (e :: es) [] pos) (some (.Name y py)) pos'.line X.env = pure false := by rfl) (hf : X.fn y = true ∨ X.env.scope.names.lookup y = some .local := by first | exact .inl rfl | exact .inr rfl) : BJ X Z Qr D sp (.Assign [.Name y py] (.Call (.Name x fp) (e :: es) [] pos) pos' :: rest) ((ma.bi fun g => (mf ((), g)).nx).bi (outc (fun _ d => kv d) fun c _ => kx c)) := fun F ad σ H S hm => by
  refine seq (ofS (ps_set am.nd hi hx pe_w hs hf) ?_)
  obtain ⟨E, tk, hE⟩ := am.ps
  refine mk_core (W := E) am Ck hj ha hn hg hpl hdb hol tk F ad σ H _ S ((mwp_out hm).imp fun r q F' ad' H' q0 S' h5 => ?_)
  obtain ⟨r1, d⟩ := r
  refine ⟨fun e1 => ?_, fun c C' e1 hC => ?_⟩
  · have e1 : r1 = .inl () := e1
    subst e1
    exact hr d F' ad' _ H' (S'.set ⟨q0, h5, rfl⟩) q
  · have e1 : r1 = .inr c := e1
    subst e1
    have q : mwp (kx c) Qr Z.Er := q
    rcases xh with h | h
    · rw [h] at q
      exact q.elim
    · rw [h] at q
      exact hE c q C' H' hC S'.gh
end
end Wk

set_option Elab.async false
set_option linter.all false
set_option maxRecDepth 100000
set_option maxHeartbeats 4000000
namespace Wk
open PySem PySem.Spec PyProof.Rows L2
section
variable {X : Cx} {Z : Fz} {sp : Spec X.K} {a b c e o ce : Expr} {es : List Expr} {pos pos' p p2 fp apos : Pos} {α β γ δ ε ρ θ : Type} {k j i : Nat} {x y : Str} {F F' H H' : Hp} {ad : List Addr} {σ : Sg} {Qr : ρ → Prop} {D : Ends} {st : Stmt} {st' rest body thn els : List Stmt} {m : Res ((β ⊕ Str) × δ)} {t : Option Addr} {tg it : Expr} {ks : List Nat} {ts : List (Option Addr)} {dvs : List V} {obs : δ → List (OT X.K)}
/-! ### a field that is new -/
theorem FdOk.snoc_one {K : Frag} {F H : Hp} {e : OEnc K α} {s : α} {q : Addr} {o : HO} {fs : List (Fd K)} {vs : List V} {l : List Addr} (h : FdOk F H fs vs l) (h1 : H q = some o) (h2 : e.rep F o s) : FdOk F H (fs ++ [.one e s]) (vs ++ [.ref q]) (l ++ [q]) := by
  induction h with
  | nil => exact .one h1 h2 .nil
  | val h r ih => exact .val h ih
  | one h3 h4 r ih => exact .one h3 h4 ih
  | @pk _ _ _ _ l1 _ _ l h r ih =>
    show FdOk F H (_ :: (_ ++ _)) (_ :: (_ ++ _)) (_ :: ((l1 ++ l) ++ [q]))
    rw [List.append_assoc]
    exact .pk h ih
  | «at» r ih => exact .at ih
theorem FdOk.snoc_val {K : Frag} {F H : Hp} {e : Enc K α} {s : α} {v : V} {fs : List (Fd K)} {vs : List V} {l : List Addr} (h : FdOk F H fs vs l) (h1 : e.rep F v s) : FdOk F H (fs ++ [.val e s]) (vs ++ [v]) l := by
  induction h with
  | nil => exact .val h1 .nil
  | val h r ih => exact .val h ih
  | one h3 h4 r ih => exact .one h3 h4 ih
  | pk h r ih => exact .pk h ih
  | «at» r ih => exact .at ih
theorem pkputE {sh' : Sh} {vw' : Vw X.K δ} {n0 : Nat} {q0 : Addr} {L : Nat → List Addr} {hd' : HO} {vs' : List V} {s' : δ} {l' : List Addr} (S : SOk Z F ad sp σ H) (W : LfW Z.G F H ad sp.ob L) (hol : n0 < sp.ob.length) (h1 : ad[n0]? = some q0) (k4 : F q0 = none) (k5 : Z.G q0 = none) (k6 : ∀ q, t = some q → q0 = q)
    (hk : sh'.is hd' vs') (hfd : FdOk F H (vw' s') vs' l') (nd : l'.Nodup) (hl : ∀ q ∈ l', q ∈ L n0 ∨ (F q = none ∧ Z.G q = none ∧ q ∉ ad ∧ H q ≠ none ∧ ∀ k, q ∉ L k)) : SOk Z F ad ⟨sp.sl, sp.ob.set n0 (.pk t (pkI sh' vw') s')⟩ σ (L2.upd H q0 hd') := by
  have nq : ∀ q ∈ l', q ≠ q0 := fun q hq z => by
    rcases hl q hq with y | ⟨_, _, y, _⟩
    · exact (W.di n0 q y).1 (z ▸ List.mem_of_getElem? h1)
    · exact y (z ▸ List.mem_of_getElem? h1)
  refine S.pkset (L := L) (l' := l') W h1 k4 k5 hol (fun b hb _ => upd_ne hb) (fun b hb => ?_) nd ⟨⟨hd', vs', upd_same, hk, hfd.go (Same.refl _) fun q hq o z => by rw [upd_ne (nq q hq)]; exact z⟩, k4, k5, k6⟩
  rw [upd_ne (nq b hb)]
  rcases hl b hb with y | ⟨y1, y2, y3, y4, y5⟩
  · obtain ⟨e1, e2, e3, e4⟩ := W.di n0 b y
    exact ⟨e2, e3, e1, e4, fun k hk z => hk (W.un n0 b y k z)⟩
  · exact ⟨y1, y2, y3, y4, fun k _ => y5 k⟩
section
variable {C : Addr} {ns ns' : List Str} {f : Str} {vw : Vw X.K γ} {vw' : Vw X.K δ} {s : γ} {n0 : Nat}
/-- x.f = a new list, f a new field -/
theorem bj_nfO {en : Enc X.K α} {me : Res (List α)} {kk : List α → Res ρ} (s' : List α → δ) (fo : FldOk X.K C f) (hs : sp.sl[i]? = some (.own n0)) (ho : sp.ob[n0]? = some (.pk t (pkI (.ins C ns) vw) s)) (h : FJ X Z sp e me en)
    (hs' : ∀ v, vw' (s' v) = vw s ++ [.lst en v]) (hr : ∀ v, BJ X Z Qr D ⟨sp.sl, sp.ob.set n0 (.pk t (pkI (.ins C ns') vw') (s' v))⟩ rest (kk v)) (hns : ns' = ns ++ [f] := by rfl) (hf : f ∉ ns := by decide) (hN : X.N[i]? = some x := by rfl) (hfew : ns.length < 1000 := by decide)
    (hv : Vis X.env.scope x := by first | exact Or.inl rfl | exact Or.inr (Or.inl rfl) | exact Or.inr (Or.inr rfl)) (hd : (x == ("__debug__" : Str)) = false := by decide) (hcd : (x == ("__classdict__" : Str)) = false := by decide)
    (hsw : swapsWith e (some (.Attribute (.Name x p) f pos')) pos.line X.env = pure false := by rfl) :
    BJ X Z Qr D sp (.Assign [.Attribute (.Name x p) f pos'] e pos :: rest) (me.bi kk) := fun F ad σ H S hm => by
  refine seq (ofS (ps_fld (pe_var (i := i) hN hv hd hcd) pe_w hsw) ?_)
  refine h F ad σ H _ S (hm.bi.imp fun y g F1 H1 q us n1 r1 r2 r3 rz r4 => ?_)
  have S1 := S.nx n1
  obtain ⟨o', g1, q0, g2, g3⟩ := S.sl i _ hs
  obtain ⟨q1, L, g4, W, ⟨hdo, vs, k1, ⟨kl, dx, k2⟩, k3⟩, k4, k5, k6⟩ := S.pk ho
  rw [g2] at g4
  cases g4
  subst k2
  have nW : ∀ k, q ∉ L k := fun k z => (W.di k q z).2.2.2 r1
  have k3' := k3.go n1.ff fun q _ => n1.hh q
  have k4' := n1.non k4 (by rw [k1]; exact fun z => nomatch z)
  refine ⟨.ref q0, by rw [g1, g3], q0, C, dx, _, rfl, n1.hh _ _ k1, fo.cl, fo.na, by rw [List.length_zip]; omega, ?_⟩
  rw [putF_new hf kl]
  subst hns
  refine hr y F1 ad σ _ (pkputE (sh' := .ins C (ns ++ [f])) (vs' := vs ++ [.ref q]) (hd' := .ins C dx ((ns ++ [f]).zip (vs ++ [.ref q]))) (l' := L n0 ++ [q]) S1 (W.nx n1) (getElem?_some_of ho) g2 k4' k5 k6 ⟨by simp [kl], dx, rfl⟩ (by rw [hs']; exact FdOk.snoc_one (e := lstE en) (s := y) k3' r3 (show (lstE en).rep F1 (.lst us) y from ⟨us, rfl, rz, r4⟩)) ?_ fun z hz => ?_) g
  · rw [List.nodup_append]
    exact ⟨W.nd n0, by simp, fun a ha b hb e => by simp at hb; subst hb; subst e; exact nW n0 ha⟩
  · rcases List.mem_append.mp hz with hz | hz
    · exact .inl hz
    · rw [List.mem_singleton] at hz
      subst hz
      exact .inr ⟨r2, S.gh.free r1, fun w => S.st z w r1, by rw [r3]; exact (fun z => nomatch z), nW⟩
/-- x.f = a value, f a new field -/
theorem bj_nfV {en : Enc X.K α} {me : Res α} {kk : α → Res ρ} (s' : α → δ) (fo : FldOk X.K C f) (hs : sp.sl[i]? = some (.own n0)) (ho : sp.ob[n0]? = some (.pk t (pkI (.ins C ns) vw) s)) (h : EJ X Z sp e me en)
    (hs' : ∀ v, vw' (s' v) = vw s ++ [.val en v]) (hr : ∀ v, BJ X Z Qr D ⟨sp.sl, sp.ob.set n0 (.pk t (pkI (.ins C ns') vw') (s' v))⟩ rest (kk v)) (hns : ns' = ns ++ [f] := by rfl) (hf : f ∉ ns := by decide) (hN : X.N[i]? = some x := by rfl) (hfew : ns.length < 1000 := by decide)
    (hv : Vis X.env.scope x := by first | exact Or.inl rfl | exact Or.inr (Or.inl rfl) | exact Or.inr (Or.inr rfl)) (hd : (x == ("__debug__" : Str)) = false := by decide) (hcd : (x == ("__classdict__" : Str)) = false := by decide)
    (hsw : swapsWith e (some (.Attribute (.Name x p) f pos')) pos.line X.env = pure false := by rfl) :
    BJ X Z Qr D sp (.Assign [.Attribute (.Name x p) f pos'] e pos :: rest) (me.bi kk) := fun F ad σ H S hm => by
  refine seq (ofS (ps_fld (pe_var (i := i) hN hv hd hcd) pe_w hsw) ?_)
  refine h F ad σ H _ S (hm.bi.imp fun y g F1 H1 u n1 r1 => ?_)
  have S1 := S.nx n1
  obtain ⟨o', g1, q0, g2, g3⟩ := S.sl i _ hs
  obtain ⟨q1, L, g4, W, ⟨hdo, vs, k1, ⟨kl, dx, k2⟩, k3⟩, k4, k5, k6⟩ := S.pk ho
  rw [g2] at g4
  cases g4
  subst k2
  have k3' := k3.go n1.ff fun q _ => n1.hh q
  have k4' := n1.non k4 (by rw [k1]; exact fun z => nomatch z)
  refine ⟨.ref q0, by rw [g1, g3], q0, C, dx, _, rfl, n1.hh _ _ k1, fo.cl, fo.na, by rw [List.length_zip]; omega, ?_⟩
  rw [putF_new hf kl]
  subst hns
  exact hr y F1 ad σ _ (pkputE (sh' := .ins C (ns ++ [f])) (vs' := vs ++ [u]) (hd' := .ins C dx ((ns ++ [f]).zip (vs ++ [u]))) (l' := L n0) S1 (W.nx n1) (getElem?_some_of ho) g2 k4' k5 k6 ⟨by simp [kl], dx, rfl⟩ (by rw [hs']; exact k3'.snoc_val r1) (W.nd n0) fun z hz => .inl hz) g
theorem bj_nfO_p {en : Enc X.K α} {xs : List α} {m : Res ρ} (s' : δ) (fo : FldOk X.K C f) (hs : sp.sl[i]? = some (.own n0)) (ho : sp.ob[n0]? = some (.pk t (pkI (.ins C ns) vw) s)) (h : FJ X Z sp e (.ok xs) en)
    (hs' : vw' s' = vw s ++ [.lst en xs]) (hr : BJ X Z Qr D ⟨sp.sl, sp.ob.set n0 (.pk t (pkI (.ins C ns') vw') s')⟩ rest m) (hns : ns' = ns ++ [f] := by rfl) (hf : f ∉ ns := by decide) (hN : X.N[i]? = some x := by rfl) (hfew : ns.length < 1000 := by decide)
    (hv : Vis X.env.scope x := by first | exact Or.inl rfl | exact Or.inr (Or.inl rfl) | exact Or.inr (Or.inr rfl)) (hd : (x == ("__debug__" : Str)) = false := by decide) (hcd : (x == ("__classdict__" : Str)) = false := by decide)
    (hsw : swapsWith e (some (.Attribute (.Name x p) f pos')) pos.line X.env = pure false := by rfl) :
    BJ X Z Qr D sp (.Assign [.Attribute (.Name x p) f pos'] e pos :: rest) m := fun F ad σ H S hm => by
  refine seq (ofS (ps_fld (pe_var (i := i) hN hv hd hcd) pe_w hsw) ?_)
  refine h F ad σ H _ S (fun F1 H1 q us n1 r1 r2 r3 rz r4 => ?_)
  have S1 := S.nx n1
  obtain ⟨o', g1, q0, g2, g3⟩ := S.sl i _ hs
  obtain ⟨q1, L, g4, W, ⟨hdo, vs, k1, ⟨kl, dx, k2⟩, k3⟩, k4, k5, k6⟩ := S.pk ho
  rw [g2] at g4
  cases g4
  subst k2
  have nW : ∀ k, q ∉ L k := fun k z => (W.di k q z).2.2.2 r1
  have k3' := k3.go n1.ff fun q _ => n1.hh q
  have k4' := n1.non k4 (by rw [k1]; exact fun z => nomatch z)
  refine ⟨.ref q0, by rw [g1, g3], q0, C, dx, _, rfl, n1.hh _ _ k1, fo.cl, fo.na, by rw [List.length_zip]; omega, ?_⟩
  rw [putF_new hf kl]
  subst hns
  refine hr F1 ad σ _ (pkputE (sh' := .ins C (ns ++ [f])) (vs' := vs ++ [.ref q]) (hd' := .ins C dx ((ns ++ [f]).zip (vs ++ [.ref q]))) (l' := L n0 ++ [q]) S1 (W.nx n1) (getElem?_some_of ho) g2 k4' k5 k6 ⟨by simp [kl], dx, rfl⟩ (by rw [hs']; exact FdOk.snoc_one (e := lstE en) (s := xs) k3' r3 (show (lstE en).rep F1 (.lst us) xs from ⟨us, rfl, rz, r4⟩)) ?_ fun z hz => ?_) hm
  · rw [List.nodup_append]
    exact ⟨W.nd n0, by simp, fun a ha b hb e => by simp at hb; subst hb; subst e; exact nW n0 ha⟩
  · rcases List.mem_append.mp hz with hz | hz
    · exact .inl hz
    · rw [List.mem_singleton] at hz
      subst hz
      exact .inr ⟨r2, S.gh.free r1, fun w => S.st z w r1, by rw [r3]; exact (fun z => nomatch z), nW⟩
theorem bj_nfV_p {en : Enc X.K α} {v : α} {m : Res ρ} (s' : δ) (fo : FldOk X.K C f) (hs : sp.sl[i]? = some (.own n0)) (ho : sp.ob[n0]? = some (.pk t (pkI (.ins C ns) vw) s)) (h : EJ X Z sp e (.ok v) en)
    (hs' : vw' s' = vw s ++ [.val en v]) (hr : BJ X Z Qr D ⟨sp.sl, sp.ob.set n0 (.pk t (pkI (.ins C ns') vw') s')⟩ rest m) (hns : ns' = ns ++ [f] := by rfl) (hf : f ∉ ns := by decide) (hN : X.N[i]? = some x := by rfl) (hfew : ns.length < 1000 := by decide)
    (hv : Vis X.env.scope x := by first | exact Or.inl rfl | exact Or.inr (Or.inl rfl) | exact Or.inr (Or.inr rfl)) (hd : (x == ("__debug__" : Str)) = false := by decide) (hcd : (x == ("__classdict__" : Str)) = false := by decide)
    (hsw : swapsWith e (some (.Attribute (.Name x p) f pos')) pos.line X.env = pure false := by rfl) :
    BJ X Z Qr D sp (.Assign [.Attribute (.Name x p) f pos'] e pos :: rest) m := fun F ad σ H S hm => by
  refine seq (ofS (ps_fld (pe_var (i := i) hN hv hd hcd) pe_w hsw) ?_)
  refine h F ad σ H _ S (fun F1 H1 u n1 r1 => ?_)
  have S1 := S.nx n1
  obtain ⟨o', g1, q0, g2, g3⟩ := S.sl i _ hs
  obtain ⟨q1, L, g4, W, ⟨hdo, vs, k1, ⟨kl, dx, k2⟩, k3⟩, k4, k5, k6⟩ := S.pk ho
  rw [g2] at g4
  cases g4
  subst k2
  have k3' := k3.go n1.ff fun q _ => n1.hh q
  have k4' := n1.non k4 (by rw [k1]; exact fun z => nomatch z)
  refine ⟨.ref q0, by rw [g1, g3], q0, C, dx, _, rfl, n1.hh _ _ k1, fo.cl, fo.na, by rw [List.length_zip]; omega, ?_⟩
  rw [putF_new hf kl]
  subst hns
  exact hr F1 ad σ _ (pkputE (sh' := .ins C (ns ++ [f])) (vs' := vs ++ [u]) (hd' := .ins C dx ((ns ++ [f]).zip (vs ++ [u]))) (l' := L n0) S1 (W.nx n1) (getElem?_some_of ho) g2 k4' k5 k6 ⟨by simp [kl], dx, rfl⟩ (by rw [hs']; exact k3'.snoc_val r1) (W.nd n0) fun z hz => .inl hz) hm
end
/-! ### such calls within an expression -/
def SK (X : Cx) (Z : Fz) {β δ : Type} (en : Enc X.K β) (spN : δ → Spec X.K) (σ : Sg) (Q : VK) (W : WX) : (β ⊕ Str) × δ → Prop
  | (.inl b, d) => ∀ F' ad' H' v, SOk Z F' ad' (spN d) σ H' → en.rep F' v b → Q v H'
  | (.inr c, d) => ∀ C F' ad' H', SOk Z F' ad' (spN d) σ H' → X.mg c = some (.ref C) → W (.ref C) none σ H'
/-- a value, and another state behind it -/
def SVJ (X : Cx) (Z : Fz) (sp : Spec X.K) (e : Expr) {β δ : Type} (m : Res ((β ⊕ Str) × δ)) (en : Enc X.K β) (spN : δ → Spec X.K) : Prop :=
  ∀ (F : Hp) (ad : List Addr) (σ : Sg) (H : Hp) (Q : VK) (W : WX), SOk Z F ad sp σ H → Takes X W → mwp m (SK X Z en spN σ Q W) Z.Er → wE X e σ H Q
def SCJ (X : Cx) (Z : Fz) (sp : Spec X.K) (op : CmpOp) (a b : Expr) {δ : Type} (m : Res ((Bool ⊕ Str) × δ)) (spN : δ → Spec X.K) : Prop :=
  ∃ r : R2, OpR X (compareOp op) r ∧ ∀ (F : Hp) (ad : List Addr) (σ : Sg) (H : Hp) (Q : VK) (W : WX), SOk Z F ad sp σ H → Takes X W → mwp m (SK X Z eB spN σ Q W) Z.Er → wE X a σ H fun x H1 => wE X b σ H1 fun y H2 => r x y H2 Q
def STJ (X : Cx) (Z : Fz) (sp : Spec X.K) (e : Expr) {δ : Type} (m : Res ((Bool ⊕ Str) × δ)) (spN : δ → Spec X.K) : Prop :=
  ∀ (F : Hp) (ad : List Addr) (σ : Sg) (H : Hp) (Q : Bool → Hp → Prop) (W : WX), SOk Z F ad sp σ H → Takes X W → mwp m (fun r => match r with | (.inl b, d) => ∀ F' ad' H', SOk Z F' ad' (spN d) σ H' → Q b H' | (.inr c, d) => ∀ C F' ad' H', SOk Z F' ad' (spN d) σ H' → X.mg c = some (.ref C) → W (.ref C) none σ H') Z.Er → wT X e σ H Q
variable {en : Enc X.K β} {spN : δ → Spec X.K} {op : CmpOp}
theorem sj_cp (cp : CPJ X Z sp ce m (rpR (kV en) obs) ks) (tgs : TagsP sp.ob ks ts) (nk : ks.Nodup := by decide) (hol : ∀ d, (obs d).length = ks.length := by intro d; rfl) : SVJ X Z sp ce m en (fun d => ⟨sp.sl, putO sp.ob ks (zipT ts (obs d))⟩) := fun F ad σ H Q W S tk hm => by
  refine cp F ad σ H _ W S tk (hm.imp fun r q => ⟨fun F1 H1 F' H' ps L n W0 pk nd fw => ⟨fun v hr' => ?_, fun c C hx hC => ?_⟩⟩)
  · obtain ⟨b, e1, hb, op⟩ := hr'
    obtain ⟨r1, d⟩ := r
    have e1 : r1 = .inl b := e1
    subst e1
    obtain ⟨ad', S'⟩ := out_st (obs := obs) S n W0 pk nd nk tgs (hol d) fw op
    exact q F' ad' H' v S' hb
  · obtain ⟨e1, op⟩ := hx
    obtain ⟨r1, d⟩ := r
    have e1 : r1 = .inr c := e1
    subst e1
    obtain ⟨ad', S'⟩ := out_st (obs := obs) S n W0 pk nd nk tgs (hol d) fw op
    exact q C F' ad' H' S' hC
/-- with what is told made use of -/
def sof (f : β → δ → Res α) : (β ⊕ Str) × δ → Res ((α ⊕ Str) × δ)
  | (.inl b, d) => (f b d).bi fun a => .ok (.inl a, d)
  | (.inr c, d) => .ok (.inr c, d)
theorem SK.use {en' : Enc X.K α} {f : β → δ → Res α} {Q Q' : VK} {W : WX} (h : mwp (m.bi (sof f)) (SK X Z en' spN σ Q W) Z.Er) (g : ∀ b d F' ad' H' v, SOk Z F' ad' (spN d) σ H' → en.rep F' v b → mwp (f b d) (fun a => ∀ F2 ad2 H2 w, SOk Z F2 ad2 (spN d) σ H2 → en'.rep F2 w a → Q w H2) Z.Er → Q' v H') : mwp m (SK X Z en spN σ Q' W) Z.Er := h.bi.imp fun r q => by
  obtain ⟨r, d⟩ := r
  cases r with
  | inl b => exact fun F' ad' H' v S r => g b d F' ad' H' v S r q.bi
  | inr c => exact q
theorem sj_cmp {m : Res ((Bool ⊕ Str) × δ)} (h : SCJ X Z sp op a b m spN) (hm : behindInMarks op b = false := by first | exact nomark _ | rfl) : SVJ X Z sp (.Compare a [op] [b] pos) m eB spN := fun F ad σ H Q W S tk hm' => by
  obtain ⟨r, ho, h⟩ := h
  exact ofE (pe_cmpR ho pe_w pe_w hm) (h F ad σ H Q W S tk hm')
theorem stj_cmp {m : Res ((Bool ⊕ Str) × δ)} (h : SCJ X Z sp op a b m spN) (hm : behindInMarks op b = false := by first | exact nomark _ | rfl) : STJ X Z sp (.Compare a [op] [b] pos) m spN := fun F ad σ H Q W S tk hm' => by
  obtain ⟨r, ho, h⟩ := h
  refine ofT (pt_cmpR ho pe_w pe_w hm) (h F ad σ H _ W S tk (hm'.imp fun r q => ?_))
  obtain ⟨r, d⟩ := r
  cases r with
  | inl b => exact fun F' ad' H' v S' hv => ⟨b, hv, q F' ad' H' S'⟩
  | inr c => exact q
/-- y.m(..) != b -/
theorem scj_ne [DecidableEq β] (sc : ScE en) {mb : δ → Res β} (ha : SVJ X Z sp a m en spN) (hb : ∀ d, EJ X Z (spN d) b (mb d) en) : SCJ X Z sp .NotEq a b (m.bi (sof fun x d => (mb d).bi fun y => .ok (!decide (x = y)))) spN := ⟨_, op_ne, fun F ad σ H Q W S tk hm => by
  refine ha F ad σ H _ W S tk (SK.use hm fun x d F1 ad1 H1 v S1 r1 q => ?_)
  refine hb d F1 ad1 σ H1 _ S1 (q.bi.imp fun y q F2 H2 u n2 r2 => ?_)
  obtain ⟨e1, e2⟩ := sc.sc F1 F2 v u x y r1 r2
  refine ⟨e1, ?_⟩
  rw [e2]
  exact q F2 ad1 H2 _ (S1.nx n2) rfl⟩
theorem scj_eq [DecidableEq β] (sc : ScE en) {mb : δ → Res β} (ha : SVJ X Z sp a m en spN) (hb : ∀ d, EJ X Z (spN d) b (mb d) en) : SCJ X Z sp .Eq a b (m.bi (sof fun x d => (mb d).bi fun y => .ok (decide (x = y)))) spN := ⟨_, op_eq, fun F ad σ H Q W S tk hm => by
  refine ha F ad σ H _ W S tk (SK.use hm fun x d F1 ad1 H1 v S1 r1 q => ?_)
  refine hb d F1 ad1 σ H1 _ S1 (q.bi.imp fun y q F2 H2 u n2 r2 => ?_)
  obtain ⟨e1, e2⟩ := sc.sc F1 F2 v u x y r1 r2
  refine ⟨e1, ?_⟩
  rw [e2]
  exact q F2 ad1 H2 _ (S1.nx n2) rfl⟩
/-- y.m(..) is not None, of one that tells None -/
theorem scj_notN {m : Res ((Unit ⊕ Str) × δ)} {jj : Nat} (ha : SVJ X Z sp a m eU spN) : SCJ X Z sp .IsNot a (.Constant .none jj p) (m.bi (sof fun _ _ => .ok false)) spN := ⟨_, op_notN, fun F ad σ H Q W S tk hm => by
  refine ha F ad σ H _ W S tk (SK.use hm fun x d F1 ad1 H1 v S1 r1 q => ?_)
  refine ofE pe_non ⟨rfl, ?_⟩
  have r1 : v = .non := r1
  subst r1
  exact q F1 ad1 H1 _ S1 rfl⟩
/-- (y.m(..), ..) -/
theorem sj_tup {r : VsE X.K γ} {me : δ → Res γ} {jj : Nat} (ha : SVJ X Z sp a m en spN) (hb : ∀ d, VJ X Z (spN d) es (me d) r) (hn : nst a = true := by rfl) (hl : es.length ≤ 999 := by decide) : SVJ X Z sp (.Tuple (a :: es) jj pos) (m.bi (sof fun x d => (me d).bi fun g => .ok (x, g))) (eT (vsC en r)) spN := fun F ad σ H Q W S tk hm => by
  refine ofE (pe_tup (pa_cons pe_w pa_w (star_cons hn))) ?_
  refine ha F ad σ H _ W S tk (SK.use hm fun x d F1 ad1 H1 v S1 r1 q => ?_)
  refine hb d F1 ad1 σ H1 _ S1 (q.bi.imp fun g q F2 H2 vs n2 r2 e => ?_)
  refine ⟨Nat.le_of_lt (small1000 (by rw [List.length_cons]; omega)), fun l hl => ?_⟩
  obtain ⟨g1, g2⟩ := n2.free hl
  exact q (upd F2 l (.tup (v :: vs))) ad1 _ (.ref l) (S1.nx ((n2.new hl).fix g1 g2 upd_same)) ⟨l, v :: vs, rfl, upd_same, v, vs, rfl, en.mono (n2.ff.trans (same_upd g2)) r1, r.mono (same_upd g2) r2⟩
/-- if, by such a test -/
theorem bj_sif {S : Type} {sps : S → Spec X.K} {kk : S → Res ρ} {m : Res ((Bool ⊕ Str) × δ)} {mA mB : δ → Res ρ} {kx : Str → δ → Res ρ} (hc : STJ X Z sp c m spN) (xh : XH X Z Qr spN kx) (hr : ∀ s, BJ X Z Qr D (sps s) rest (kk s))
    (hA : ∀ d nx, NX X Z Qr nx sps kk → BJ X Z Qr { D with nx := nx } (spN d) thn (mA d)) (hB : ∀ d nx, NX X Z Qr nx sps kk → BJ X Z Qr { D with nx := nx } (spN d) els (mB d)) : BJ X Z Qr D sp (.If c thn els pos :: rest) (m.bi (outc (fun b d => if b then mA d else mB d) kx)) := fun F ad σ H S hm => by
  obtain ⟨W, tk, hW⟩ := xh
  refine seq (ofS (ps_if pt_w pb_w pb_w) ?_)
  have N : NX X Z Qr (wB X rest D) sps kk := fun s F ad σ H S' h => hr s F ad σ H S' h
  refine hc F ad σ H _ W S tk ((mwp_out hm).imp fun r q => ?_)
  obtain ⟨r, d⟩ := r
  cases r with
  | inl b =>
    intro F' ad' H' S'
    cases b with
    | true => exact hA d _ N F' ad' σ H' S' q
    | false => exact hB d _ N F' ad' σ H' S' q
  | inr c => exact fun C F' ad' H' S' hC => hW c d F' ad' σ H' C S' q hC
/-- return .. -/
theorem bj_sr {obs' : ε → List (OT X.K)} {qs : List Addr} {ks' : List Nat} {Qr : (β ⊕ Str) × ε → Prop} (sel : δ → ε) (hR : RTP Z (rpR (kV en) obs') qs Qr D.rt) (hX : XTP X Z (rpR (kV en) obs') qs Qr) (h : SVJ X Z sp e m en spN) (lo : ∀ d, LeO (spN d).ob ks' (zipA qs (obs' (sel d)))) (hn : ks'.Nodup := by decide) :
    BJ X Z Qr D sp (.Return (some e) pos :: rest) (m.bi fun r => .ok (r.1, sel r.2)) := fun F ad σ H S hm => by
  obtain ⟨E, tk, hE⟩ := hX
  refine seq (ofS (ps_ret pe_w) ?_)
  refine h F ad σ H _ _ S tk (hm.bi.imp fun r q => ?_)
  obtain ⟨r, d⟩ := r
  cases r with
  | inl b => exact fun F' ad' H' v S' hb => hR (.inl b, sel d) F' H' v S'.fwdP ⟨b, rfl, hb, obsP_of S' (lo d) hn⟩ q
  | inr c => exact fun C F' ad' H' S' hC => hE (.inr c, sel d) c C F' H' S'.fwdP ⟨rfl, obsP_of S' (lo d) hn⟩ q hC
end
end Wk

set_option Elab.async false
set_option linter.all false
set_option maxRecDepth 100000
set_option maxHeartbeats 4000000
namespace Wk
open PySem PySem.Spec PyProof.Rows L2
section
variable {X : Cx} {Z : Fz} {sp : Spec X.K} {a b c e o ce : Expr} {es : List Expr} {pos pos' p p2 fp apos : Pos} {α β γ δ ε ρ θ : Type} {k j i : Nat} {x y : Str} {F F' H H' : Hp} {ad : List Addr} {σ : Sg} {Qr : ρ → Prop} {D : Ends} {t : Option Addr}
/-! ### an instance that stays: its fields, its methods -/
section
variable {C : Addr} {ns : List Str} {r : VsE X.K γ} {f mn : Str} {n : Nat} {sel : γ → α} {en : Enc X.K α}
theorem ej_fldI {me : Res γ} (he : EJ X Z sp e me (eIns C ns r)) (fo : FldOk X.K C f) (va : VAt r n en sel) (hn : ns[n]? = some f := by rfl) (nd : ns.Nodup := by decide) (hb : attributeBase e f X.env (eval e X.env) = eval e X.env := by rfl) : EJ X Z sp (.Attribute e f pos) (me.bi fun s => .ok (sel s)) en := fun F ad σ H Q S hm => by
  refine ofE (pe_fld pe_w hb) ?_
  refine he F ad σ H _ S (hm.bi.imp fun s q F1 H1 v n1 ⟨p, vs, dx, h1, h2, h3, h4⟩ => ?_)
  obtain ⟨u, k1, k2⟩ := va F1 vs s h4
  exact ⟨p, C, dx, _, u, h1, n1.fh _ _ h3, fo.cl, fo.na, lookup_zip nd hn k1, q F1 H1 u n1 k2⟩
theorem ej_fldI_p {s : γ} (he : EJ X Z sp e (.ok s) (eIns C ns r)) (fo : FldOk X.K C f) (va : VAt r n en sel) (hn : ns[n]? = some f := by rfl) (nd : ns.Nodup := by decide) (hb : attributeBase e f X.env (eval e X.env) = eval e X.env := by rfl) : EJ X Z sp (.Attribute e f pos) (.ok (sel s)) en := ej_fldI he fo va hn nd hb
/-- o.m(e, ..) -/
theorem methI_core {A : ArE X.K δ} {mf : γ × δ → Res ρ} {R : RtE ρ} {ma : Res δ} {mo : Res γ} (am : Amb X Z k) (Cm : CalM X.prog X.w X.K X.mg X.base C mn j [] (spF X.mg (arV (eIns C ns r) A) mf R)) (hj : j ≤ k) (ho : EJ X Z sp o mo (eIns C ns r)) (ha : AJ X Z sp (e :: es) ma A) (hmn : ns.contains mn = false) (hn : nst e = true)
    (hpl : (backTo pos (starEach es X.env)).any (·.1) = false)
    {pl : Sem Bool} (ht : eval (.Call (.Attribute o mn apos) (e :: es) [] pos) X.env = (do
      let ov ← eval o X.env
      standAt apos.atName
      let (f, first) ← holding [ov] (getMethod ov mn pl)
      callWith pos f first (backTo pos (starEach (e :: es) X.env)) (backToKw pos (keywordEach [] X.env)))) (F : Hp) (ad : List Addr) (σ : Sg) (H : Hp) (Q : VK) (S : SOk Z F ad sp σ H)
    (hm : mwp (mo.bi fun s => ma.bi fun g => mf (s, g)) (fun r => ∀ F' H' v F1 H1, Nx F H F1 H1 → Nx F1 H1 F' H' → R H1 F' H' v r → Q v H') Z.Er) : wE X (.Call (.Attribute o mn apos) (e :: es) [] pos) σ H Q := by
  obtain ⟨f, fd, qs, ds, G, cl, me, hb, hds⟩ := Cm.ex
  obtain ⟨E, pE, hE⟩ := am.ps
  refine ofE (pe_meth (E := E) (pl := pl) pe_w cl me G (am.hr.mono hj) hb hds (passes_call pE fun _ _ _ _ h => h) pa_w (star_cons hn) hpl ht) ?_
  refine ho F ad σ H _ S (hm.bi.imp fun s q F0 H0 v n0 r0 => ?_)
  obtain ⟨p, vs, dx, h1, h2, h3, h4⟩ := r0
  refine ⟨p, dx, _, h1, n0.fh _ _ h3, lookup_zip_none hmn, ?_⟩
  refine ha F0 ad σ H0 _ (S.nx n0) (q.bi.imp fun g q F1 H1 us n1 r1 => ?_)
  show spF X.mg (arV (eIns C ns r) A) mf R (v :: (us ++ [])) H1 Q E
  rw [List.append_nil]
  exact ⟨F1, (s, g), n1.fh, ⟨v, us, rfl, (eIns C ns r).mono n1.ff ⟨p, vs, dx, h1, h2, h3, h4⟩, r1⟩, q.imp2 (fun r q F' H' v n2 hr => q F' H' v F1 H1 (n0.trans n1) n2 hr) fun c hc C H' hC s => hE c hc C H' hC (S.gh.trans ((n0.trans n1).hh.trans s))⟩
theorem methI_core0 {mf : γ × Unit → Res ρ} {R : RtE ρ} {mo : Res γ} (am : Amb X Z k) (Cm : CalM X.prog X.w X.K X.mg X.base C mn j [] (spF X.mg (arV (eIns C ns r) ar0) mf R)) (hj : j ≤ k) (ho : EJ X Z sp o mo (eIns C ns r)) (hmn : ns.contains mn = false)
    {pl : Sem Bool} (ht : eval (.Call (.Attribute o mn apos) [] [] pos) X.env = (do
      let ov ← eval o X.env
      standAt apos.atName
      let (f, first) ← holding [ov] (getMethod ov mn pl)
      callWith pos f first (backTo pos (starEach [] X.env)) (backToKw pos (keywordEach [] X.env)))) (F : Hp) (ad : List Addr) (σ : Sg) (H : Hp) (Q : VK) (S : SOk Z F ad sp σ H)
    (hm : mwp (mo.bi fun s => mf (s, ())) (fun r => ∀ F' H' v F1 H1, Nx F H F1 H1 → Nx F1 H1 F' H' → R H1 F' H' v r → Q v H') Z.Er) : wE X (.Call (.Attribute o mn apos) [] [] pos) σ H Q := by
  obtain ⟨f, fd, qs, ds, G, cl, me, hb, hds⟩ := Cm.ex
  obtain ⟨E, pE, hE⟩ := am.ps
  refine ofE (pe_meth0 (E := E) (pl := pl) pe_w cl me G (am.hr.mono hj) hb hds (passes_call pE fun _ _ _ _ h => h) ht) ?_
  refine ho F ad σ H _ S (hm.bi.imp fun s q F0 H0 v n0 r0 => ?_)
  obtain ⟨p, vs, dx, h1, h2, h3, h4⟩ := r0
  refine ⟨p, dx, _, h1, n0.fh _ _ h3, lookup_zip_none hmn, ?_⟩
  show spF X.mg (arV (eIns C ns r) ar0) mf R [v] H0 Q E
  exact ⟨F0, (s, ()), n0.fh, ⟨v, [], rfl, ⟨p, vs, dx, h1, h2, h3, h4⟩, rfl⟩, q.imp2 (fun r q F' H' v n2 hr => q F' H' v F0 H0 n0 n2 hr) fun c hc C H' hC s => hE c hc C H' hC (S.gh.trans (n0.hh.trans s))⟩
theorem ej_methI {A : ArE X.K δ} {mf : γ × δ → Res ρ} {en : Enc X.K ρ} {ma : Res δ} {mo : Res γ} (am : Amb X Z k) (Cm : CalM X.prog X.w X.K X.mg X.base C mn j [] (spF X.mg (arV (eIns C ns r) A) mf (rtV en))) (hj : j ≤ k) (ho : EJ X Z sp o mo (eIns C ns r)) (ha : AJ X Z sp (e :: es) ma A) (hmn : ns.contains mn = false := by decide) (hn : nst e = true := by rfl)
    (hpl : (backTo pos (starEach es X.env)).any (·.1) = false := by rfl)
    {pl : Sem Bool} (ht : eval (.Call (.Attribute o mn apos) (e :: es) [] pos) X.env = (do
      let ov ← eval o X.env
      standAt apos.atName
      let (f, first) ← holding [ov] (getMethod ov mn pl)
      callWith pos f first (backTo pos (starEach (e :: es) X.env)) (backToKw pos (keywordEach [] X.env))) := by rfl) : EJ X Z sp (.Call (.Attribute o mn apos) (e :: es) [] pos) (mo.bi fun s => ma.bi fun g => mf (s, g)) en := fun F ad σ H Q S hm =>
  methI_core am Cm hj ho ha hmn hn hpl ht F ad σ H Q S (hm.imp fun r q F' H' v F1 H1 n1 n2 hr => q F' H' v (n1.trans n2) hr)
theorem ej_methI0 {mf : γ × Unit → Res ρ} {en : Enc X.K ρ} {mo : Res γ} (am : Amb X Z k) (Cm : CalM X.prog X.w X.K X.mg X.base C mn j [] (spF X.mg (arV (eIns C ns r) ar0) mf (rtV en))) (hj : j ≤ k) (ho : EJ X Z sp o mo (eIns C ns r)) (hmn : ns.contains mn = false := by decide)
    {pl : Sem Bool} (ht : eval (.Call (.Attribute o mn apos) [] [] pos) X.env = (do
      let ov ← eval o X.env
      standAt apos.atName
      let (f, first) ← holding [ov] (getMethod ov mn pl)
      callWith pos f first (backTo pos (starEach [] X.env)) (backToKw pos (keywordEach [] X.env))) := by rfl) : EJ X Z sp (.Call (.Attribute o mn apos) [] [] pos) (mo.bi fun s => mf (s, ())) en := fun F ad σ H Q S hm =>
  methI_core0 am Cm hj ho hmn ht F ad σ H Q S (hm.imp fun r q F' H' v F1 H1 n1 n2 hr => q F' H' v (n1.trans n2) hr)
theorem fj_methI {A : ArE X.K δ} {mf : γ × δ → Res (List ρ)} {en : Enc X.K ρ} {ma : Res δ} {mo : Res γ} (am : Amb X Z k) (Cm : CalM X.prog X.w X.K X.mg X.base C mn j [] (spF X.mg (arV (eIns C ns r) A) mf (rtN en))) (hj : j ≤ k) (ho : EJ X Z sp o mo (eIns C ns r)) (ha : AJ X Z sp (e :: es) ma A) (hmn : ns.contains mn = false := by decide) (hn : nst e = true := by rfl)
    (hpl : (backTo pos (starEach es X.env)).any (·.1) = false := by rfl)
    {pl : Sem Bool} (ht : eval (.Call (.Attribute o mn apos) (e :: es) [] pos) X.env = (do
      let ov ← eval o X.env
      standAt apos.atName
      let (f, first) ← holding [ov] (getMethod ov mn pl)
      callWith pos f first (backTo pos (starEach (e :: es) X.env)) (backToKw pos (keywordEach [] X.env))) := by rfl) : FJ X Z sp (.Call (.Attribute o mn apos) (e :: es) [] pos) (mo.bi fun s => ma.bi fun g => mf (s, g)) en := fun F ad σ H Q S hm =>
  methI_core am Cm hj ho ha hmn hn hpl ht F ad σ H Q S (hm.imp fun r q F' H' v F1 H1 n1 n2 ⟨p, vs, e1, h1, h2, h3, hz, h4⟩ => by
    subst e1
    exact q F' H' p vs (n1.trans n2) (n1.hh.free h1) h2 h3 hz h4)
theorem fj_methI0 {mf : γ × Unit → Res (List ρ)} {en : Enc X.K ρ} {mo : Res γ} (am : Amb X Z k) (Cm : CalM X.prog X.w X.K X.mg X.base C mn j [] (spF X.mg (arV (eIns C ns r) ar0) mf (rtN en))) (hj : j ≤ k) (ho : EJ X Z sp o mo (eIns C ns r)) (hmn : ns.contains mn = false := by decide)
    {pl : Sem Bool} (ht : eval (.Call (.Attribute o mn apos) [] [] pos) X.env = (do
      let ov ← eval o X.env
      standAt apos.atName
      let (f, first) ← holding [ov] (getMethod ov mn pl)
      callWith pos f first (backTo pos (starEach [] X.env)) (backToKw pos (keywordEach [] X.env))) := by rfl) : FJ X Z sp (.Call (.Attribute o mn apos) [] [] pos) (mo.bi fun s => mf (s, ())) en := fun F ad σ H Q S hm =>
  methI_core0 am Cm hj ho hmn ht F ad σ H Q S (hm.imp fun r q F' H' v F1 H1 n1 n2 ⟨p, vs, e1, h1, h2, h3, hz, h4⟩ => by
    subst e1
    exact q F' H' p vs (n1.trans n2) (n1.hh.free h1) h2 h3 hz h4)
end
/-! ### as if it stayed for a while: what is told lies in tuples alone -/
def LocE {K : Frag} (e : Enc K α) : Prop := ∀ F F' v a, (∀ p us, F p = some (.tup us) → F' p = some (.tup us)) → e.rep F v a → e.rep F' v a
def LocV {K : Frag} (r : VsE K α) : Prop := ∀ F F' vs a, (∀ p us, F p = some (.tup us) → F' p = some (.tup us)) → r.rep F vs a → r.rep F' vs a
theorem loc_pu {K : Frag} {e : Enc K α} (h : PureE e) : LocE e := fun F F' v a _ r => h F F' v a r
theorem loc_O {K : Frag} {e : Enc K α} (h : LocE e) : LocE (eO e) := fun F F' v a s r => by
  cases a with
  | none => exact r
  | some a => exact h F F' v a s r
theorem loc_1 {K : Frag} {e : Enc K α} (h : LocE e) : LocV (vs1 e) := fun F F' vs a s ⟨v, h1, h2⟩ => ⟨v, h1, h F F' v a s h2⟩
theorem loc_C {K : Frag} {e : Enc K α} {r : VsE K γ} (h : LocE e) (hr : LocV r) : LocV (vsC e r) := fun F F' vs a s ⟨v, ws, h1, h2, h3⟩ => ⟨v, ws, h1, h F F' v a.1 s h2, hr F F' ws a.2 s h3⟩
theorem loc_T {K : Frag} {r : VsE K γ} (hr : LocV r) : LocE (eT r) := fun F F' v a s ⟨p, vs, h1, h2, h3⟩ => ⟨p, vs, h1, s _ _ h2, hr F F' vs a s h3⟩
def NoTup {K : Frag} (E : PkE K γ) : Prop := ∀ F H l p s, E.rep F H l p s → ∀ q, q = p ∨ q ∈ l → ∀ us, H q ≠ some (.tup us)
def NtV {K : Frag} (vw : Vw K γ) : Prop := ∀ F H vs l s, FdOk F H (vw s) vs l → ∀ q ∈ l, ∀ us, H q ≠ some (.tup us)
def NtF {K : Frag} (f : α → Fd K) : Prop := ∀ F H v l a fs vs, FdOk F H (f a :: fs) (v :: vs) l → ∃ l', FdOk F H fs vs l' ∧ ∀ q ∈ l, q ∈ l' ∨ ∀ us, H q ≠ some (.tup us)
theorem nt_V {K : Frag} {e : Enc K α} : NtF (fV e) := fun F H v l a fs vs h => by
  cases h with
  | val h r => exact ⟨_, r, fun q hq => .inl hq⟩
theorem nt_L {K : Frag} {e : Enc K α} : NtF (fL e) := fun F H v l a fs vs h => by
  cases h with
  | one h1 h2 r =>
    obtain ⟨us, k1, _⟩ := h2
    subst k1
    refine ⟨_, r, fun q hq => ?_⟩
    rcases List.mem_cons.mp hq with z | z
    · subst z
      exact .inr fun us z => by rw [h1] at z; cases z
    · exact .inl z
theorem nt_1 {K : Frag} {f : α → Fd K} (h : NtF f) : NtV (vw1 f) := fun F H vs l s k q hq us => by
  have hlen := k.len
  cases vs with
  | nil => cases hlen
  | cons v vs =>
    obtain ⟨l', k1, k2⟩ := h F H v l s [] vs k
    cases k1
    rcases k2 q hq with z | z
    · simp at z
    · exact z us
theorem nt_C {K : Frag} {f : α → Fd K} {vw : Vw K γ} (h : NtF f) (hr : NtV vw) : NtV (vwC f vw) := fun F H vs l s k q hq us => by
  have hlen := k.len
  cases vs with
  | nil => cases hlen
  | cons v vs =>
    obtain ⟨l', k1, k2⟩ := h F H v l s.1 (vw s.2) vs k
    rcases k2 q hq with z | z
    · exact hr F H vs l' s.2 k1 q z us
    · exact z us
theorem nt_I {K : Frag} {C : Addr} {ns : List Str} {vw : Vw K γ} (h : NtV vw) : NoTup (pkI (.ins C ns) vw) := fun F H l p s ⟨o, vs, h1, ⟨_, dx, h2⟩, h3⟩ q hq us z => by
  subst h2
  rcases hq with e | hq
  · subst e
    rw [h1] at z
    cases z
  · exact h F H vs l s h3 q hq us z
structure FrN {K : Frag} (sp sp' : Spec K) : Prop where
  go : ∀ (Z : Fz) (F : Hp) (ad : List Addr) (σ : Sg) (H : Hp), SOk Z F ad sp σ H → ∃ F', SOk Z F' ad sp' σ H ∧ Same F F' ∧ ∀ a us, F' a = some (.tup us) → F a = some (.tup us)
theorem frn_refl {K : Frag} {sp : Spec K} : FrN sp sp := ⟨fun Z F ad σ H S => ⟨F, S, Same.refl _, fun _ _ h => h⟩⟩
theorem frn_pk {sp' : Spec X.K} {E : PkE X.K α} {en : Enc X.K α} {s : α} (k : Nat) (fz : FzE E en) (nt : NoTup E) (ho : sp.ob[k]? = some (.pk t E s)) (r : FrN ⟨sp.sl.map (thawV k en s), sp.ob.set k .dead⟩ sp') : FrN sp sp' := ⟨fun Z F ad σ H S => by
  obtain ⟨zx, S0⟩ := S.fwd
  obtain ⟨F1, l, p, rp, w, S1⟩ := S0.frzPkL fz ho
  obtain ⟨F2, S2, f2, g2⟩ := r.go Z F1 ad σ H (S1.back zx)
  refine ⟨F2, S2, S1.f0.trans f2, fun a us h => ?_⟩
  rcases w a _ (g2 a us h) with z | ⟨z1, z2⟩
  · exact z
  · exact absurd z2 (nt _ _ _ _ _ rp a z1 us)⟩
open Classical in
/-- what was there, and the tuples of the other -/
noncomputable def tupF (F F' : Hp) : Hp := fun a => match F a with
  | some o => some o
  | none => match F' a with
    | some (.tup us) => some (.tup us)
    | _ => none
theorem tupF_ff {F F' : Hp} : Same F (tupF F F') := fun a o h => by
  unfold tupF
  rw [h]
theorem tupF_le {F F' : Hp} (s : Same F F') : Same (tupF F F') F' := fun a o h => by
  unfold tupF at h
  cases e : F a with
  | some o' =>
    rw [e] at h
    exact h ▸ s _ _ e
  | none =>
    rw [e] at h
    cases e2 : F' a with
    | none => rw [e2] at h; cases h
    | some o2 =>
      rw [e2] at h
      cases o2 with
      | tup us => exact h
      | _ => cases h
theorem tupF_tup {F F' : Hp} (s : Same F F') : ∀ p us, F' p = some (.tup us) → tupF F F' p = some (.tup us) := fun p us h => by
  unfold tupF
  cases e : F p with
  | some o =>
    have := s _ _ e
    rw [h] at this
    exact this.symm
  | none => rw [h]
theorem tupF_nx {F F1 F' H H' : Hp} (n : Nx F1 H F' H') (s : Same F F1) (g : ∀ a us, F1 a = some (.tup us) → F a = some (.tup us)) : Nx F H (tupF F F') H' := ⟨tupF_ff, n.hh, (tupF_le (s.trans n.ff)).trans n.fh, fun a h => by
  cases e : F a with
  | some o => exact .inl (by rw [← e]; rw [e]; exact fun z => nomatch z)
  | none =>
    right
    unfold tupF at h
    rw [e] at h
    cases e2 : F' a with
    | none => rw [e2] at h; exact absurd rfl h
    | some o2 =>
      rw [e2] at h
      cases o2 with
      | tup us =>
        rcases n.nw a (by rw [e2]; exact fun z => nomatch z) with z | z
        · cases e3 : F1 a with
          | none => exact absurd e3 z
          | some o3 =>
            have e4 := n.ff _ _ e3
            rw [e2] at e4
            cases e4
            rw [g a us e3] at e
            cases e
        · exact z
      | _ => exact absurd rfl h⟩
variable {sp' : Spec X.K}
theorem ej_tmpL {en : Enc X.K α} {m : Res α} (fr : FrN sp sp') (lo : LocE en) (h : EJ X Z sp' e m en) : EJ X Z sp e m en := fun F ad σ H Q S hm => by
  obtain ⟨F1, S1, f1, g1⟩ := fr.go Z F ad σ H S
  exact h F1 ad σ H Q S1 (hm.imp fun b q F' H' v n r => q (tupF F F') H' v (tupF_nx n f1 g1) (lo _ _ _ _ (tupF_tup (f1.trans n.ff)) r))
theorem fj_tmpL {en : Enc X.K α} {m : Res (List α)} (fr : FrN sp sp') (lo : LocE en) (h : FJ X Z sp' e m en) : FJ X Z sp e m en := fun F ad σ H Q S hm => by
  obtain ⟨F1, S1, f1, g1⟩ := fr.go Z F ad σ H S
  refine h F1 ad σ H Q S1 (hm.imp fun b q F' H' p vs n h1 h2 h3 hz r => q (tupF F F') H' p vs (tupF_nx n f1 g1) h1 ?_ h3 hz (Paired.imp (fun v a z => lo _ _ _ _ (tupF_tup (f1.trans n.ff)) z) r))
  cases e : tupF F F' p with
  | none => rfl
  | some o =>
    have := tupF_le (f1.trans n.ff) _ _ e
    rw [h2] at this
    cases this
theorem tj_tmpL {m : Res Bool} (fr : FrN sp sp') (h : TJ X Z sp' e m) : TJ X Z sp e m := fun F ad σ H Q S hm => by
  obtain ⟨F1, S1, f1, g1⟩ := fr.go Z F ad σ H S
  exact h F1 ad σ H Q S1 (hm.imp fun b q F' H' n => q F H' (n.less f1 S.fh))
end
end Wk

set_option Elab.async false
set_option linter.all false
set_option maxRecDepth 100000
set_option maxHeartbeats 4000000
namespace Wk
open PySem PySem.Spec PyProof.Rows L2
/-- what is never looked at -/
def eAny {K : Frag} : Enc K Unit := ⟨fun _ _ _ => True, fun _ h => h⟩
section
variable {P : Program} {w : World} {K : Frag} {mg : Str → Option Value} {base : Heap}
theorem calM_mk {x qual : Str} {params : Arguments} {body : List Stmt} {scope : Scope} {C : Addr} {mn : Str} {fd : FuncData} {ps : List Str} {k : Nat} {spp : Sp} (F : FunD K x qual params body scope [] [] (He.ma K C mn) fd) (ok : FnOk P w K mg base (L2.CX P w) k (He.ma K C mn) fd ps spp) (cl : Cls K C) (me : Meth K C mn (He.ma K C mn))
    (h : ∀ (kV doc pm : Value) (an : Option Addr) (cdv ct : Value) (us : List Value), us.length = ps.length → bindArgs (PySem.W.fnOf x qual params body scope .none kV doc pm an cdv ct) ⟨us, []⟩ = pure (ps.zip us)) : CalM P w K mg base C mn k [] spp :=
  ⟨_, fd, ps, [], ok, cl, me, F.bindsN h, .nil⟩
theorem calM_mkD {x qual : Str} {params : Arguments} {body : List Stmt} {scope : Scope} {C : Addr} {mn : Str} {fd : FuncData} {ps : List Str} {k : Nat} {spp : Sp} {dvs : List V} (F : FunD K x qual params body scope dvs [] (He.ma K C mn) fd) (ok : FnOk P w K mg base (L2.CX P w) k (He.ma K C mn) fd ps spp) (cl : Cls K C) (me : Meth K C mn (He.ma K C mn)) (n j : Nat) (hd : dvs ≠ []) (hn : n + (dvs.length - j) = ps.length)
    (h : ∀ (T : Addr) (kV doc pm : Value) (an : Option Addr) (cdv ct : Value) (us its : List Value), us.length = n → its.length = dvs.length →
      ∃ k, bindArgs (PySem.W.fnOf x qual params body scope (.ref T) kV doc pm an cdv ct) ⟨us, []⟩ = seqItems? (.ref T) >>= k ∧ k (some its.toArray) = pure (ps.zip (us ++ its.drop j))) : CalM P w K mg base C mn k (dvs.drop j) spp := by
  obtain ⟨ds, h1, h2⟩ := F.binds1 n j hd hn h
  exact ⟨_, fd, ps, ds, ok, cl, me, h2, h1⟩
theorem calK_mk {x y qual : Str} {params : Arguments} {body : List Stmt} {scope : Scope} {C : Addr} {fd : FuncData} {ps : List Str} {k : Nat} {spp : Sp} (F : FunD K x qual params body scope [] [] (He.ma K C "__init__") fd) (ok : FnOk P w K mg base (L2.CX P w) k (He.ma K C "__init__") fd ps spp) (mk : Mk K C (He.ma K C "__init__")) (hm : mg y = some (.ref C))
    (h : ∀ (kV doc pm : Value) (an : Option Addr) (cdv ct : Value) (us : List Value), us.length = ps.length → bindArgs (PySem.W.fnOf x qual params body scope .none kV doc pm an cdv ct) ⟨us, []⟩ = pure (ps.zip us)) : CalK P w K mg base y C k [] spp :=
  ⟨_, fd, ps, [], ok, mk, hm, F.bindsN h, .nil⟩
end
theorem RTP.zx {Z Z' : Fz} {K : Frag} {ρ : Type} {R : RtP K ρ} {ad : List Addr} {Qr : ρ → Prop} {rt : VK} (h : RTP Z R ad Qr rt) (z : ZX Z Z') : RTP Z' R ad Qr rt := fun r F' H' v fw hr q => by
  rw [z.g] at hr fw
  exact h r F' H' v ⟨z.f.trans fw.ff, fw.fh, fw.gh, fun a ha => (fw.fg a ha).elim (z.n a) .inr⟩ hr q
theorem XTP.zx {X : Cx} {Z Z' : Fz} {K : Frag} {ρ : Type} {R : RtP K ρ} {ad : List Addr} {Qr : ρ → Prop} (h : XTP X Z R ad Qr) (z : ZX Z Z') : XTP X Z' R ad Qr := by
  obtain ⟨E, tk, hE⟩ := h
  refine ⟨E, tk, fun r c C F' H' fw hr q hC => ?_⟩
  rw [z.g] at hr fw
  exact hE r c C F' H' ⟨z.f.trans fw.ff, fw.fh, fw.gh, fun a ha => (fw.fg a ha).elim (z.n a) .inr⟩ hr q hC
section
variable {X : Cx} {Z : Fz} {sp : Spec X.K} {a b c e o ce : Expr} {es : List Expr} {pos pos' p p2 fp apos : Pos} {α β γ δ ε ρ θ : Type} {k j i : Nat} {x y : Str} {F F' H H' : Hp} {ad : List Addr} {σ : Sg} {Qr : ρ → Prop} {D : Ends} {st : Stmt} {st' rest body thn els : List Stmt} {m : Res ((β ⊕ Str) × δ)} {t : Option Addr} {tg it : Expr} {ks : List Nat} {ts : List (Option Addr)} {obs : δ → List (OT X.K)} {ns tx : List Str}
/-- x is (not) None, x None for sure -/
theorem cj_isU {m : Res Unit} {jj : Nat} (ha : EJ X Z sp a m eU) : CJ X Z sp .Is a (.Constant .none jj p) (m.bi fun _ => .ok true) := ⟨_, op_isN, fun F ad σ H Q S hm => by
  refine ha F ad σ H _ S (hm.bi.imp fun x q F1 H1 v n1 r1 => ?_)
  have r1 : v = .non := r1
  subst r1
  exact ofE pe_non ⟨rfl, q F1 H1 n1⟩⟩
theorem cj_notU {m : Res Unit} {jj : Nat} (ha : EJ X Z sp a m eU) : CJ X Z sp .IsNot a (.Constant .none jj p) (m.bi fun _ => .ok false) := ⟨_, op_notN, fun F ad σ H Q S hm => by
  refine ha F ad σ H _ S (hm.bi.imp fun x q F1 H1 v n1 r1 => ?_)
  have r1 : v = .non := r1
  subst r1
  exact ofE pe_non ⟨rfl, q F1 H1 n1⟩⟩
theorem cj_isU_p {u : Unit} {jj : Nat} (ha : EJ X Z sp a (.ok u) eU) : CJ X Z sp .Is a (.Constant .none jj p) (.ok true) := cj_isU ha
theorem cj_notU_p {u : Unit} {jj : Nat} (ha : EJ X Z sp a (.ok u) eU) : CJ X Z sp .IsNot a (.Constant .none jj p) (.ok false) := cj_notU ha
/-! ### try -/
def TBP (X : Cx) (Z : Fz) (sp : Spec X.K) (body : List Stmt) {β δ : Type} (m : Res ((β ⊕ Str) × δ)) (spN : β → δ → Spec X.K) (spE : δ → Spec X.K) : Prop :=
  ∀ (F : Hp) (ad : List Addr) (σ : Sg) (H : Hp) (D : Ends) (W : WX), SOk Z.mute F ad sp σ H → Takes X W →
    mwp m (fun r => match r with
      | (.inl b, d) => ∀ F' ad' σ' H', SOk Z.mute F' ad' (spN b d) σ' H' → D.nx σ' H'
      | (.inr c, d) => ∀ C F' ad' H', SOk Z.mute F' ad' (spE d) σ H' → X.mg c = some (.ref C) → W (.ref C) none σ H') (fun _ => False) → wB X body D σ H
section
variable {en : Enc X.K β}
theorem tbp_ex (cp : CPJ X Z.mute sp ce m (rpR (kV en) obs) ks) (tgs : TagsP sp.ob ks ts) (nk : ks.Nodup := by decide) (hol : ∀ d, (obs d).length = ks.length := by intro d; rfl) (hw : swapsWith ce none pos'.line X.env = pure false := by rfl) :
    TBP X Z sp [.Expr ce pos'] m (fun _ d => ⟨sp.sl, putO sp.ob ks (zipT ts (obs d))⟩) (fun d => ⟨sp.sl, putO sp.ob ks (zipT ts (obs d))⟩) := fun F ad σ H D W S tk hm => by
  refine ofB (pss_one (ps_expr pe_w hw)) ?_
  refine cp F ad σ H _ W S tk (hm.imp2 (fun r q => ⟨fun F1 H1 F' H' ps L n W0 pk nd fw => ⟨fun v hr' => ?_, fun c C hx hC => ?_⟩⟩) fun _ z => z)
  · obtain ⟨b, e1, hb, op⟩ := hr'
    obtain ⟨r1, d⟩ := r
    have e1 : r1 = .inl b := e1
    subst e1
    obtain ⟨ad', S'⟩ := out_st (obs := obs) S n W0 pk nd nk tgs (hol d) fw op
    exact q F' ad' σ H' S'
  · obtain ⟨e1, op⟩ := hx
    obtain ⟨r1, d⟩ := r
    have e1 : r1 = .inr c := e1
    subst e1
    obtain ⟨ad', S'⟩ := out_st (obs := obs) S n W0 pk nd nk tgs (hol d) fw op
    exact q C F' ad' H' S' hC
theorem tbp_ca {spos py : Pos} (nd0 : X.N.Nodup) (cp : CPJ X Z.mute sp ce m (rpR (kV en) obs) ks) (tgs : TagsP sp.ob ks ts) (nk : ks.Nodup := by decide) (hol : ∀ d, (obs d).length = ks.length := by intro d; rfl) (hi : X.N[i]? = some y := by rfl) (hx : Loc X.env.scope y := by first | exact Or.inl rfl | exact Or.inr rfl)
    (hs : swapsWith ce (some (.Name y py)) spos.line X.env = pure false := by rfl) (hf : X.fn y = true ∨ X.env.scope.names.lookup y = some .local := by first | exact .inl rfl | exact .inr rfl) :
    TBP X Z sp [.Assign [.Name y py] ce spos] m (fun b d => ⟨sp.sl.set i (.val en b), putO sp.ob ks (zipT ts (obs d))⟩) (fun d => ⟨sp.sl, putO sp.ob ks (zipT ts (obs d))⟩) := fun F ad σ H D W S tk hm => by
  refine ofB (pss_one (ps_set nd0 hi hx pe_w hs hf)) ?_
  refine cp F ad σ H _ W S tk (hm.imp2 (fun r q => ⟨fun F1 H1 F' H' ps L n W0 pk nd fw => ⟨fun v hr' => ?_, fun c C hx hC => ?_⟩⟩) fun _ z => z)
  · obtain ⟨b, e1, hb, op⟩ := hr'
    obtain ⟨r1, d⟩ := r
    have e1 : r1 = .inl b := e1
    subst e1
    obtain ⟨ad', S'⟩ := out_st (obs := obs) S n W0 pk nd nk tgs (hol d) fw op
    exact q F' ad' _ H' (S'.set ⟨v, rfl, hb⟩)
  · obtain ⟨e1, op⟩ := hx
    obtain ⟨r1, d⟩ := r
    have e1 : r1 = .inr c := e1
    subst e1
    obtain ⟨ad', S'⟩ := out_st (obs := obs) S n W0 pk nd nk tgs (hol d) fw op
    exact q C F' ad' H' S' hC
end
theorem tbp_if {mc : Res Bool} {mA mB : Res ((β ⊕ Str) × δ)} {spN : β → δ → Spec X.K} {spE : δ → Spec X.K} (hc : TJ X Z.mute sp c mc) (hA : TBP X Z sp thn mA spN spE) (hB : TBP X Z sp els mB spN spE) : TBP X Z sp [.If c thn els pos] (mc.nx.bi fun b => if b then mA else mB) spN spE := fun F ad σ H D W S tk hm => by
  refine ofB (pss_one (ps_if pt_w pb_w pb_w)) ?_
  refine hc F ad σ H _ S ((mwp.nx (mwp.bi hm)).imp fun b q F' H' n => ?_)
  cases b with
  | true => exact hA F' ad σ H' D W (S.nx n) tk q
  | false => exact hB F' ad σ H' D W (S.nx n) tk q
/-- what goes on -/
def tryP {S : Type} (ns : List Str) (fN : β → δ → S) (fE : Str → δ → S) : (β ⊕ Str) × δ → Res S
  | (.inl b, d) => .ok (fN b d)
  | (.inr c, d) => if c ∈ ns then .ok (fE c d) else .bad
theorem bj_tryP {S : Type} {spN : β → δ → Spec X.K} {spE : δ → Spec X.K} {sps : S → Spec X.K} {fN : β → δ → S} {fE : Str → δ → S} {kk : S → Res ρ} {ic : Nat} {n : Str} {np p1 p3 : Pos} {ks ks' : List Nat} (am : Amb X Z k) (xf : XF X.K X.mg ns tx)
    (hb : ∀ pn xe, Amb (X.tr pn xe) Z.mute k → TBP (X.tr pn xe) Z sp body m spN spE) (leN : ∀ r d, Le (spN r d) (sps (fN r d)) ks) (leE : ∀ c d, Le ⟨((spE d).sl.set i .any).set ic (.val (eO (eX ns)) (some c)), (spE d).ob⟩ (sps (fE c d)) ks') (hr : ∀ s, BJ X Z Qr D (sps s) rest (kk s))
    (hsub : ns.all (fun c => subX c x) = true := by decide) (hts : x ∈ tx := by decide) (hic : ic ≠ i := by decide) (hil : ∀ d, Nat.ble (i + 1) (spE d).sl.length = true := by intro d; rfl)
    (hi : X.N[i]? = some n := by rfl) (hy : X.N[ic]? = some y := by rfl) (hln : X.env.kindOf n = some .local := by rfl) (hyl : X.env.scope.names.lookup y = some .local := by rfl)
    (hs : X.stack = X.env :: X.outer := by rfl) (hf : X.env.frame = some X.env.locals := by rfl) (hex : X.ex = [] := by rfl) (hg : Gl X x := by rfl) (hdb : (x == ("__debug__" : Str)) = false := by decide) (hnl : n ≠ y := by decide)
    (hv : Vis X.env.scope n := by first | exact Or.inl rfl | exact Or.inr (Or.inl rfl) | exact Or.inr (Or.inr rfl)) (hd : (n == ("__debug__" : Str)) = false := by decide) (hcd : (n == ("__classdict__" : Str)) = false := by decide)
    (hsw : swapsWith (.Name n p2) (some (.Name y p1)) p3.line X.env = pure false := by rfl) :
    BJ X Z Qr D sp (.Try body [.ExceptHandler (some (.Name x np)) (some n) [.Assign [.Name y p1] (.Name n p2) p3] pos'] [] [] pos :: rest) (((m.nx).bi (tryP ns fN fE)).bi kk) := fun F ad σ H S0 hm => by
  rw [bi_bi] at hm
  refine seq (ofS (ps_try_asX (X := X) (i := i) hs hf hex am.nd hi hln ⟨hg, hdb, .inl (xf.glo x (List.mem_append_right _ hts))⟩ (tb := fun W D σ H => ∀ pn xe, Takes (X.tr pn xe) W → PassesOwn (model X.prog X.w) X.A X.env xe → wB (X.tr pn xe) body D σ H) (ts := fun a cls d D σ H => σ[i]? = some (some (.ref a)) ∧ D.nx (σ.set ic (some (.ref a))) H)
    (fun W pn xe tk po => ⟨fun pins s σ H D I h => pb_w.run pins s σ H D I (h pn xe tk po)⟩)
    (fun a oe cls d pn hz hv' => ⟨fun pins s σ H D I h => ?_⟩)) ?_)
  · obtain ⟨h1, h2⟩ := h
    have pv : PE (X.suite a ((a, oe) :: pn)) (.Name n p2) (tVar i) := pe_var (X := X.suite a ((a, oe) :: pn)) (i := i) hi hv hd hcd
    have ps : PS (X.suite a ((a, oe) :: pn)) (.Assign [.Name y p1] (.Name n p2) p3) (tAsg (tVar i) (gName ic)) := ps_set (X := X.suite a ((a, oe) :: pn)) (i := ic) am.nd hy (.inl hyl) pv hsw (.inr hyl)
    refine (pss_one ps).run pins s σ H D I ?_
    exact ⟨.ref a, h1, h2⟩
  · intro pn xe tk po
    refine hb pn xe ⟨am.hr, am.calm, am.nd, po, fun _ _ _ => False, takes0, fun _ h => h.elim⟩ F ad σ H { D with nx := wB X rest D } (wAsX X.K (.ref (He.ga X.K x)) i (fun a cls d D σ H => σ[i]? = some (some (.ref a)) ∧ D.nx (σ.set ic (some (.ref a))) H) { D with nx := wB X rest D }) S0.er tk ?_
    refine (mwp.nxF hm.bi).imp2 (fun r q => ?_) fun _ z => z
    obtain ⟨r, d⟩ := r
    cases r with
    | inl b =>
      intro F' ad' σ' H' S'
      obtain ⟨ad2, S2⟩ := (leN b d).go Z F' ad' σ' H' S'.rer
      exact hr _ F' ad2 σ' H' S2 q
    | inr c =>
      intro C F' ad' H' S' hC
      have q : mwp ((if c ∈ ns then (Res.ok (fE c d) : Res S) else .bad).bi kk) Qr Z.Er := q
      by_cases hc : c ∈ ns
      · rw [if_pos hc] at q
        have eC : C = He.ga X.K c := by
          have z := (xf.glo c (List.mem_append_left _ hc)).symm.trans hC
          injection z with z
          injection z with z
          exact z.symm
        subst eC
        refine ⟨rfl, ?_, fun a na => ⟨?_, ?_⟩⟩
        · rw [xf.exm c hc x hts, List.all_eq_true.mp hsub c hc]
        · rw [List.getElem?_set_self]
          rw [← S'.len]
          exact Nat.le_of_ble_eq_true (hil d)
        · have S2 := SOk.keepX (ns := ns) (i := i) (ic := ic) (v := none) S'.rer hc na
          obtain ⟨ad2, S3⟩ := (leE c d).go Z _ ad' _ _ S2
          show wB X rest D (((σ.set i (some (.ref a))).set ic (some (.ref a))).set i none) _
          rw [set_set_none hic]
          exact hr _ _ ad2 _ _ S3 q
      · rw [if_neg hc] at q
        exact q.elim
end
end Wk

set_option Elab.async false
set_option linter.all false
set_option maxRecDepth 100000
set_option maxHeartbeats 4000000
namespace Wk
open PySem PySem.Spec PyProof.Rows L2
section
variable {X : Cx} {Z : Fz} {sp : Spec X.K} {a b c e o ce : Expr} {es : List Expr} {pos pos' p p2 fp apos : Pos} {α β γ δ ε ρ θ : Type} {k j i : Nat} {x y : Str} {F F' H H' : Hp} {ad : List Addr} {σ : Sg} {Qr : ρ → Prop} {D : Ends} {st : Stmt} {st' rest body thn els : List Stmt} {t : Option Addr} {ks bk : List Nat} {ts : List (Option Addr)} {dvs : List V}
theorem ej_any {en : Enc X.K α} {m : Res α} (h : EJ X Z sp e m en) : EJ X Z sp e (m.bi fun _ => .ok ()) eAny := fun F ad σ H Q S hm => h F ad σ H Q S (hm.bi.imp fun x q F' H' v n _ => q F' H' v n trivial)
theorem ej_any_p {en : Enc X.K α} {v : α} (h : EJ X Z sp e (.ok v) en) : EJ X Z sp e (.ok ()) eAny := ej_any h
theorem cpj_call_p {A : ArP X.K γ} {mf : γ → Res θ} {R : RtP X.K θ} {g : γ} (am : Amb X Z k) (C : Cal X.prog X.w X.K X.mg X.base x j (spP X.mg A mf R)) (hj : j ≤ k) (ha : APJ X Z sp (e :: es) (.ok g) A ks bk []) (nk : ks.Nodup := by decide) (hbk : ∀ k ∈ bk, k ∉ ks := by decide) (hn : nst e = true := by rfl) (hg : Gl X x := by rfl)
    (hpl : (backTo pos (starEach es X.env)).any (·.1) = false := by rfl) (hdb : (x == ("__debug__" : Str)) = false := by decide) (hol : ∀ g, (A.ob g).length = ks.length := by intro g; rfl) : CPJ X Z sp (.Call (.Name x fp) (e :: es) [] pos) (mf g).nx R ks := cpj_call am C hj ha nk hbk hn hg hpl hdb hol
section
variable {C : Addr} {ns : List Str} {vw : Vw X.K α} {s : α} {q0 : Nat} {mn : Str} {yp : Pos}
theorem cpj_meth_p {A : ArP X.K γ} {mf : α × γ → Res θ} {R : RtP X.K θ} {g : γ} (am : Amb X Z k) (Cm : CalM X.prog X.w X.K X.mg X.base C mn j dvs (spP X.mg (apP (pkI (.ins C ns) vw) A) mf R)) (hj : j ≤ k) (ha : APJ X Z sp (e :: es) (.ok g) A ks bk dvs) (hs : sp.sl[i]? = some (.own q0) := by rfl) (ho : sp.ob[q0]? = some (.pk t (pkI (.ins C ns) vw) s) := by rfl)
    (nk : (q0 :: ks).Nodup := by decide) (hbk : ∀ k ∈ bk, k ∉ q0 :: ks := by decide) (hmn : ns.contains mn = false := by decide) (hn : nst e = true := by rfl) (hpl : (backTo pos (starEach es X.env)).any (·.1) = false := by rfl) (hN : X.N[i]? = some y := by rfl)
    (hv : Vis X.env.scope y := by first | exact Or.inl rfl | exact Or.inr (Or.inl rfl) | exact Or.inr (Or.inr rfl)) (hd : (y == ("__debug__" : Str)) = false := by decide) (hcd : (y == ("__classdict__" : Str)) = false := by decide) (hol : ∀ g, (A.ob g).length = ks.length := by intro g; rfl)
    {pl : Sem Bool} (ht : eval (.Call (.Attribute (.Name y yp) mn apos) (e :: es) [] pos) X.env = (do
      let ov ← eval (.Name y yp) X.env
      standAt apos.atName
      let (f, first) ← holding [ov] (getMethod ov mn pl)
      callWith pos f first (backTo pos (starEach (e :: es) X.env)) (backToKw pos (keywordEach [] X.env))) := by rfl) :
    CPJ X Z sp (.Call (.Attribute (.Name y yp) mn apos) (e :: es) [] pos) (mf (s, g)).nx R (q0 :: ks) := cpj_meth am Cm hj ha hs ho nk hbk hmn hn hpl hN hv hd hcd hol ht
end
theorem bj_mk_p {A : ArP X.K γ} {mf : Unit × γ → Res ((Unit ⊕ Str) × δ)} {E0 : δ → OT X.K} {g : γ} {C : Addr} {kv : δ → Res ρ} {kx : Str → Res ρ} {py : Pos} (am : Amb X Z k) (Ck : CalK X.prog X.w X.K X.mg X.base x C j dvs (spP X.mg (apP (pkI (.ins C []) (fun _ => [])) A) mf (rpR (kV (eU : Enc X.K Unit)) (fun d => [E0 d])))) (hj : j + 1 ≤ k) (ha : APJ X Z sp (e :: es) (.ok g) A [] [] dvs)
    (hr : ∀ d, BJ X Z Qr D ⟨sp.sl.set i (.own sp.ob.length), sp.ob ++ [(E0 d).at none]⟩ rest (kv d)) (xh : kx = (fun _ => .bad) ∨ kx = .exc) (hn : nst e = true := by rfl) (hg : Gl X x := by rfl)
    (hpl : (backTo pos (starEach es X.env)).any (·.1) = false := by rfl) (hdb : (x == ("__debug__" : Str)) = false := by decide) (hol : ∀ g, A.ob g = [] := by intro g; rfl)
    (hi : X.N[i]? = some y := by rfl) (hx : Loc X.env.scope y := by first | exact Or.inl rfl | exact Or.inr rfl)
    (hs : swapsWith (.Call (.Name x fp) (e :: es) [] pos) (some (.Name y py)) pos'.line X.env = pure false := by rfl) (hf : X.fn y = true ∨ X.env.scope.names.lookup y = some .local := by first | exact .inl rfl | exact .inr rfl) : BJ X Z Qr D sp (.Assign [.Name y py] (.Call (.Name x fp) (e :: es) [] pos) pos' :: rest) ((mf ((), g)).nx.bi (outc (fun _ d => kv d) fun c _ => kx c)) := bj_mk am Ck hj ha hr xh hn hg hpl hdb hol hi hx hs hf
end
end Wk

set_option Elab.async false
set_option linter.all false
set_option maxRecDepth 100000
set_option maxHeartbeats 4000000
namespace Wk
open PySem PySem.Spec PyProof.Rows L2
theorem puAny {K : Frag} : PureE (eAny (K := K)) := fun _ _ _ _ _ => trivial
theorem adp1 {ad : List Addr} (h : ad.length = 1) : ∃ p, ad = [p] := match ad, h with
  | [p], _ => ⟨p, rfl⟩
theorem adp2 {ad : List Addr} (h : ad.length = 2) : ∃ p q, ad = [p, q] := match ad, h with
  | [p, q], _ => ⟨p, q, rfl⟩
theorem adp3 {ad : List Addr} (h : ad.length = 3) : ∃ p q r, ad = [p, q, r] := match ad, h with
  | [p, q, r], _ => ⟨p, q, r, rfl⟩
theorem adp4 {ad : List Addr} (h : ad.length = 4) : ∃ p q r s, ad = [p, q, r, s] := match ad, h with
  | [p, q, r, s], _ => ⟨p, q, r, s, rfl⟩
section
variable {X : Cx} {Z : Fz} {sp : Spec X.K} {a b c e o ce tg : Expr} {es : List Expr} {pos pos' p p2 fp apos : Pos} {α β γ δ ε ρ θ : Type} {k j i : Nat} {x y : Str} {F F' H H' : Hp} {ad : List Addr} {σ : Sg} {Qr : ρ → Prop} {D : Ends} {st : Stmt} {st' rest body thn els : List Stmt} {t : Option Addr} {ks : List Nat} {ts : List (Option Addr)} {dvs : List V} {spN : δ → Spec X.K} {obs : δ → List (OT X.K)}
/-- y.m(..) .. or b -/
theorem stj_or {m : Res ((Bool ⊕ Str) × δ)} {mb : δ → Res Bool} (ha : STJ X Z sp a m spN) (hb : ∀ d, WJ X Z (spN d) (.BoolOp .Or [b] pos) (mb d)) : STJ X Z sp (.BoolOp .Or [a, b] pos) (m.bi (sof fun x d => if x then .ok true else mb d)) spN := fun F ad σ H Q W S tk hm => by
  refine ofT (PW.pt pw_w) ?_
  refine ofW (pw_or pt_w pw_w) ?_
  refine ha F ad σ H _ W S tk (hm.bi.imp fun r q => ?_)
  obtain ⟨r, d⟩ := r
  cases r with
  | inr c => exact q
  | inl v =>
    intro F' ad' H' S'
    cases v with
    | true => exact q F' ad' H' S'
    | false => exact hb d F' ad' σ H' _ S' ((mwp.bi q).imp fun c q F2 H2 n => q F2 ad' H2 (S'.nx n))
theorem stj_not {m : Res ((Bool ⊕ Str) × δ)} (ha : STJ X Z sp a m spN) : STJ X Z sp (.UnaryOp .Not a pos) (m.bi (sof fun x _ => .ok !x)) spN := fun F ad σ H Q W S tk hm => by
  refine ofT (pt_not pt_w) ?_
  refine ha F ad σ H _ W S tk (hm.bi.imp fun r q => ?_)
  obtain ⟨r, d⟩ := r
  cases r with
  | inr c => exact q
  | inl v => exact fun F' ad' H' S' => q F' ad' H' S'
/-- if .., that leaves -/
theorem bj_sifr {m : Res ((Bool ⊕ Str) × δ)} {mA mr : δ → Res ρ} {kx : Str → δ → Res ρ} (hc : STJ X Z sp c m spN) (xh : XH X Z Qr spN kx)
    (hA : ∀ d nx, BJ X Z Qr { D with nx := nx } (spN d) thn (mA d)) (hr : ∀ d, BJ X Z Qr D (spN d) rest (mr d)) : BJ X Z Qr D sp (.If c thn [] pos :: rest) (m.bi (outc (fun b d => if b then mA d else mr d) kx)) := fun F ad σ H S hm => by
  obtain ⟨W, tk, hW⟩ := xh
  refine seq (ofS (ps_if pt_w pb_w pb_w) ?_)
  refine hc F ad σ H _ W S tk ((mwp_out hm).imp fun r q => ?_)
  obtain ⟨r, d⟩ := r
  cases r with
  | inl b =>
    intro F' ad' H' S'
    cases b with
    | true => exact hA d _ F' ad' σ H' S' q
    | false => exact ofB pss_nil (hr d F' ad' σ H' S' q)
  | inr c => exact fun C F' ad' H' S' hC => hW c d F' ad' σ H' C S' q hC
/-- f(..), with a new list that is dropped -/
theorem bj_cxN {en : Enc X.K α} {kv : List α → δ → Res ρ} {kx : Str → δ → Res ρ} {m : Res ((List α ⊕ Str) × δ)} (cp : CPJ X Z sp ce m (rpR (kN en) obs) ks) (tgs : TagsP sp.ob ks ts) (hr : ∀ v d, BJ X Z Qr D ⟨sp.sl, putO sp.ob ks (zipT ts (obs d)) ++ [.lst none en v]⟩ rest (kv v d)) (xh : XH X Z Qr (fun d => ⟨sp.sl, putO sp.ob ks (zipT ts (obs d))⟩) kx) (nk : ks.Nodup := by decide) (hol : ∀ d, (obs d).length = ks.length := by intro d; rfl)
    (hw : swapsWith ce none pos'.line X.env = pure false := by rfl) : BJ X Z Qr D sp (.Expr ce pos' :: rest) (m.bi (outc kv kx)) := fun F ad σ H S hm => by
  obtain ⟨W, tk, hW⟩ := xh
  refine seq (ofS (ps_expr pe_w hw) ?_)
  refine cp F ad σ H _ W S tk ((mwp_out hm).imp fun r q => ⟨fun F1 H1 F' H' ps L n W0 pk nd fw => ⟨fun v hr' => ?_, fun c C hx hC => ?_⟩⟩)
  · obtain ⟨b, e1, ⟨p0, rfl⟩, op⟩ := hr'
    obtain ⟨r1, d⟩ := r
    have e1 : r1 = .inl b := e1
    subst e1
    obtain ⟨ad', hp, S'⟩ := out_stN (obs := obs) S n W0 pk nd nk tgs (hol d) fw op
    exact hr b d F' ad' σ H' S' q
  · obtain ⟨e1, op⟩ := hx
    obtain ⟨r1, d⟩ := r
    have e1 : r1 = .inr c := e1
    subst e1
    obtain ⟨ad', S'⟩ := out_st (obs := obs) S n W0 pk nd nk tgs (hol d) fw op
    exact hW c d F' ad' σ H' C S' q hC
theorem tbp_exU {en : Enc X.K β} {m : Res ((β ⊕ Str) × δ)} (cp : CPJ X Z.mute sp ce m (rpR (kV en) obs) ks) (tgs : TagsP sp.ob ks ts) (nk : ks.Nodup := by decide) (hol : ∀ d, (obs d).length = ks.length := by intro d; rfl) (hw : swapsWith ce none pos'.line X.env = pure false := by rfl) :
    TBP X Z sp [.Expr ce pos'] (m.bi (sof fun _ _ => .ok ())) (fun (_ : Unit) d => ⟨sp.sl, putO sp.ob ks (zipT ts (obs d))⟩) (fun d => ⟨sp.sl, putO sp.ob ks (zipT ts (obs d))⟩) := fun F ad σ H D W S tk hm => by
  refine tbp_ex cp tgs nk hol hw F ad σ H D W S tk (hm.bi.imp2 (fun r q => ?_) fun _ z => z)
  obtain ⟨r, d⟩ := r
  cases r with
  | inl b => exact q
  | inr c => exact q
/-! ### texts -/
def signs (x : Str) : List Str := x.cps.toList.map fun c => ⟨#[c]⟩
def signsM (x : Str) : Res (List Str) := gd (x.cps.size ≤ sizeLine) (signs x)
/-- a sign in a text -/
def inS1 (x z : Str) : Res Bool := match x.cps.toList with
  | [c] => .ok (decide (c ∈ z.cps.toList))
  | _ => .bad
theorem str_of {x : Str} {l : List Nat} (h : x.cps.toList = l) : x = ⟨l.toArray⟩ := by
  cases x with
  | mk a =>
    have h : a.toList = l := h
    subst h
    rfl
theorem sj_str {it : Expr} {m : Res Str} (h : EJ X Z sp it m eS) : SJ X Z sp tg it (m.bi signsM) eS := fun F ad σ H R S hm => by
  refine ofI (pi_str pe_w) ?_
  refine h F ad σ H _ S (hm.bi.imp fun x q F1 H1 v n1 r1 => ?_)
  have r1 : v = .str x := r1
  subst r1
  obtain ⟨c, q⟩ := q.gd
  refine ⟨x, rfl, q F1 H1 _ n1 (by unfold signs; rw [List.length_map, Array.length_toList]; exact c) fun i F' H' s f g => ?_⟩
  have hl : (signs x).length = x.cps.size := by unfold signs; rw [List.length_map, Array.length_toList]
  refine ⟨fun y hy => ?_, fun hl' => by rw [hl] at hl'; exact hl'⟩
  unfold signs at hy
  rw [List.getElem?_map, Array.getElem?_toList] at hy
  cases e : x.cps[i]? with
  | none => rw [e] at hy; cases hy
  | some c =>
    rw [e] at hy
    have hy : (⟨#[c]⟩ : Str) = y := Option.some.inj hy
    subst hy
    refine ⟨(Array.getElem?_eq_some_iff.mp e).1, fun w H'' yl => ?_⟩
    obtain ⟨rfl, c', h1, h2⟩ := yl
    rw [e] at h1
    cases h1
    exact ⟨F', ⟨Same.refl _, Same.refl _, f, fun _ h => .inl h⟩, h2⟩
theorem sj_str_p {it : Expr} {x : Str} (h : EJ X Z sp it (.ok x) eS) : SJ X Z sp tg it (signsM x) eS := sj_str h
theorem cj_inS {ma mb : Res Str} (ha : EJ X Z sp a ma eS) (hb : EJ X Z sp b mb eS) : CJ X Z sp .In a b (ma.bi fun x => mb.bi fun z => inS1 x z) := ⟨_, op_in_sign, fun F ad σ H Q S hm => by
  refine ha F ad σ H _ S (hm.bi.imp fun x q0 F1 H1 v n1 r1 => ?_)
  refine hb F1 ad σ H1 _ (S.nx n1) (q0.bi.imp fun z q F2 H2 u n2 r2 => ?_)
  have q : mwp _ _ _ := q
  unfold inS1 at q
  cases e : x.cps.toList with
  | nil => rw [e] at q; exact q.elim
  | cons c l =>
    cases l with
    | cons _ _ => rw [e] at q; exact q.elim
    | nil =>
      rw [e] at q
      have e2 := str_of e
      subst e2
      exact ⟨c, z, r1, r2, q F2 H2 (n1.trans n2)⟩⟩
theorem cj_notInS {ma mb : Res Str} (ha : EJ X Z sp a ma eS) (hb : EJ X Z sp b mb eS) : CJ X Z sp .NotIn a b (ma.bi fun x => mb.bi fun z => (inS1 x z).bi fun c => .ok !c) := ⟨_, op_notIn_sign, fun F ad σ H Q S hm => by
  refine ha F ad σ H _ S (hm.bi.imp fun x q0 F1 H1 v n1 r1 => ?_)
  refine hb F1 ad σ H1 _ (S.nx n1) (q0.bi.imp fun z q F2 H2 u n2 r2 => ?_)
  have q : mwp _ _ _ := q
  unfold inS1 at q
  cases e : x.cps.toList with
  | nil => rw [e] at q; exact q.elim
  | cons c l =>
    cases l with
    | cons _ _ => rw [e] at q; exact q.elim
    | nil =>
      rw [e] at q
      have e2 := str_of e
      subst e2
      exact ⟨c, z, r1, r2, q F2 H2 (n1.trans n2)⟩⟩
def getS (x : Str) (i : Int) : Res Str := (gd (x.length ≤ sizeLine) x.cps.toList).bi fun l => (geti l i).bi fun c => .ok ⟨#[c]⟩
theorem ej_six {ma : Res Str} {mi : Res Int} (hl : EJ X Z sp a ma eS) (hi : EJ X Z sp b mi eI) (hs : PlainIx b := by intro _ _; rfl) : EJ X Z sp (.Subscript a b pos) (ma.bi fun x => mi.bi fun i => getS x i) eS := fun F ad σ H Q S hm => by
  refine ofE (pe_ix ix_str pe_w pe_w hs) ?_
  refine hl F ad σ H _ S (hm.bi.imp fun x q0 F1 H1 v n1 r1 => ?_)
  refine hi F1 ad σ H1 _ (S.nx n1) (q0.bi.imp fun i q F2 H2 u n2 r2 => ?_)
  unfold getS at q
  obtain ⟨c, q⟩ := q.bi.gd
  obtain ⟨y, hy, q⟩ := q.bi.geti
  exact ⟨x, i, y, r1, r2, c, hy, q F2 H2 _ (n1.trans n2) rfl⟩
theorem ej_six_p {x : Str} {i : Int} (hl : EJ X Z sp a (.ok x) eS) (hi : EJ X Z sp b (.ok i) eI) (hs : PlainIx b := by intro _ _; rfl) : EJ X Z sp (.Subscript a b pos) (getS x i) eS := ej_six hl hi hs
/-- what stands where something was made: all of it, or nothing yet -/
def mkO {K : Frag} (C : Addr) (E : PkE K α) : Option α → OT K
  | some s => .pk E s
  | none => .pk (pkI (.ins C []) (fun _ : Unit => [])) ()
def outk {S : Type} (kv : S → Res ρ) (kx : Str → Res ρ) : (Unit ⊕ Str) × Option S → Res ρ
  | (.inl _, some s) => kv s
  | (.inl _, none) => .bad
  | (.inr c, _) => kx c
theorem outk_eq {S : Type} {kv : S → Res ρ} {kx : Str → Res ρ} : outk kv kx = outc (fun _ d => match d with | some s => kv s | none => .bad) (fun c _ => kx c) := by
  funext r
  obtain ⟨r, d⟩ := r
  cases r <;> cases d <;> rfl
theorem bj_mkO {bk : List Nat} {S : Type} {E : PkE X.K S} {A : ArP X.K γ} {mf : Unit × γ → Res ((Unit ⊕ Str) × Option S)} {ma : Res γ} {C : Addr} {kv : S → Res ρ} {py : Pos} (am : Amb X Z k) (Ck : CalK X.prog X.w X.K X.mg X.base x C j dvs (spP X.mg (apP (pkI (.ins C []) (fun _ => [])) A) mf (rpR (kV (eU : Enc X.K Unit)) (fun d => [mkO C E d])))) (hj : j + 1 ≤ k) (ha : APJ X Z sp (e :: es) ma A [] bk dvs)
    (hr : ∀ d, BJ X Z Qr D ⟨sp.sl.set i (.own sp.ob.length), sp.ob ++ [.pk none E d]⟩ rest (kv d)) (hn : nst e = true := by rfl) (hg : Gl X x := by rfl)
    (hpl : (backTo pos (starEach es X.env)).any (·.1) = false := by rfl) (hdb : (x == ("__debug__" : Str)) = false := by decide) (hol : ∀ g, A.ob g = [] := by intro g; rfl)
    (hi : X.N[i]? = some y := by rfl) (hx : Loc X.env.scope y := by first | exact Or.inl rfl | exact Or.inr rfl)
    (hs : swapsWith (.Call (.Name x fp) (e :: es) [] pos) (some (.Name y py)) pos'.line X.env = pure false := by rfl) (hf : X.fn y = true ∨ X.env.scope.names.lookup y = some .local := by first | exact .inl rfl | exact .inr rfl) : BJ X Z Qr D sp (.Assign [.Name y py] (.Call (.Name x fp) (e :: es) [] pos) pos' :: rest) ((ma.bi fun g => (mf ((), g)).nx).bi (outk kv .exc)) := by
  rw [outk_eq]
  exact bj_mk (E0 := mkO C E) (kv := fun d => match d with | some s => kv s | none => .bad) am Ck hj ha (fun d => match d with
    | some s => hr s
    | none => fun F ad σ H S hm => hm.elim) (.inr rfl) hn hg hpl hdb hol hi hx hs hf
theorem bj_mkO_p {bk : List Nat} {S : Type} {E : PkE X.K S} {A : ArP X.K γ} {mf : Unit × γ → Res ((Unit ⊕ Str) × Option S)} {g : γ} {C : Addr} {kv : S → Res ρ} {py : Pos} (am : Amb X Z k) (Ck : CalK X.prog X.w X.K X.mg X.base x C j dvs (spP X.mg (apP (pkI (.ins C []) (fun _ => [])) A) mf (rpR (kV (eU : Enc X.K Unit)) (fun d => [mkO C E d])))) (hj : j + 1 ≤ k) (ha : APJ X Z sp (e :: es) (.ok g) A [] bk dvs)
    (hr : ∀ d, BJ X Z Qr D ⟨sp.sl.set i (.own sp.ob.length), sp.ob ++ [.pk none E d]⟩ rest (kv d)) (hn : nst e = true := by rfl) (hg : Gl X x := by rfl)
    (hpl : (backTo pos (starEach es X.env)).any (·.1) = false := by rfl) (hdb : (x == ("__debug__" : Str)) = false := by decide) (hol : ∀ g, A.ob g = [] := by intro g; rfl)
    (hi : X.N[i]? = some y := by rfl) (hx : Loc X.env.scope y := by first | exact Or.inl rfl | exact Or.inr rfl)
    (hs : swapsWith (.Call (.Name x fp) (e :: es) [] pos) (some (.Name y py)) pos'.line X.env = pure false := by rfl) (hf : X.fn y = true ∨ X.env.scope.names.lookup y = some .local := by first | exact .inl rfl | exact .inr rfl) : BJ X Z Qr D sp (.Assign [.Name y py] (.Call (.Name x fp) (e :: es) [] pos) pos' :: rest) ((mf ((), g)).nx.bi (outk kv .exc)) := bj_mkO am Ck hj ha hr hn hg hpl hdb hol hi hx hs hf
end
end Wk

set_option Elab.async false
set_option linter.all false
set_option maxRecDepth 100000
set_option maxHeartbeats 4000000
namespace Wk
open PySem PySem.Spec PyProof.Rows L2
section
variable {X : Cx} {Z : Fz} {sp : Spec X.K} {a b c e o ce tg : Expr} {es : List Expr} {pos pos' p p2 fp apos : Pos} {α β γ δ ε ρ θ : Type} {k j i : Nat} {x y : Str} {F F' H H' : Hp} {ad : List Addr} {σ : Sg} {Qr : ρ → Prop} {D : Ends}
/-- tuple(a list) -/
theorem ej_tuL {en : Enc X.K α} {m : Res (List α)} (hm : X.mg "tuple" = none) (h : LJ X Z sp a m en) (hg : Gl X "tuple" := by rfl) (hn : nst a = true := by rfl) : EJ X Z sp (.Call (.Name "tuple" fp) [a] [] pos) m (eTL en) := fun F ad σ H Q S hq => by
  refine ofE (callT1 call_tuple_of hg hm PyProof.Rows.boot_tuple hn) ?_
  refine h F ad σ H _ S (hq.imp fun xs q F1 H1 p vs n1 h1 hz1 r1 => ?_)
  refine ⟨p, vs, rfl, .inl ⟨h1, fun l hl => ?_⟩⟩
  obtain ⟨g1, g2⟩ := n1.free hl
  exact q (L2.upd F1 l (.tup vs)) _ (.ref l) ((n1.new hl).fix g1 g2 upd_same) ⟨l, vs, rfl, upd_same, hz1, r1.mono (same_upd g2)⟩
/-- a text's part -/
def scutM (z : Str) (lo hi : Option Int) : Res Str := gd (z.length ≤ sizeLine) (Txt.slice z lo hi)
theorem ej_scut {lo hi : Option Expr} {m : Res Str} {ml mh : Res (Option Int)} (h : EJ X Z sp a m eS) (hl : OJ X Z sp lo ml) (hh : OJ X Z sp hi mh) :
    EJ X Z sp (.Subscript a (.Slice lo hi none p2) pos) (m.bi fun xs => ml.bi fun i => mh.bi fun j => scutM xs i j) eS := fun F ad σ H Q S hq => by
  obtain ⟨tl, pl, hl⟩ := hl
  obtain ⟨th, ph, hh⟩ := hh
  refine ofE (pe_slice C8.sl_txt pe_w pl ph) ?_
  refine h F ad σ H _ S (hq.bi.imp fun xs q F1 H1 v n1 r1 => ?_)
  refine hl F1 ad σ H1 _ (S.nx n1) (q.bi.imp fun i q F2 H2 n2 => ?_)
  refine hh F2 ad σ H2 _ (S.nx (n1.trans n2)) (q.bi.imp fun j q F3 H3 n3 => ?_)
  obtain ⟨c, q⟩ := q.gd
  exact ⟨xs, r1, c, q F3 H3 _ ((n1.trans n2).trans n3) rfl⟩
/-- a text and another -/
def saddM (x y : Str) : Res Str := gd (x.length + y.length ≤ sizeLine) (x ++ y)
theorem ej_sadd {ma mb : Res Str} (ha : EJ X Z sp a ma eS) (hb : EJ X Z sp b mb eS) : EJ X Z sp (.BinOp a .Add b pos) (ma.bi fun x => mb.bi fun y => saddM x y) eS := fun F ad σ H Q S hq => by
  refine ofE (pe_op op_add_str pe_w pe_w) ?_
  refine ha F ad σ H _ S (hq.bi.imp fun x q F1 H1 v n1 r1 => ?_)
  refine hb F1 ad σ H1 _ (S.nx n1) (q.bi.imp fun y q F2 H2 u n2 r2 => ?_)
  obtain ⟨c, q⟩ := q.gd
  exact ⟨x, y, r1, r2, c, q F2 H2 _ (n1.trans n2) rfl⟩
end
end Wk

set_option Elab.async false
set_option linter.all false
set_option maxRecDepth 100000
set_option maxHeartbeats 4000000
namespace Wk
open PySem PySem.Spec PyProof.Rows L2
theorem fold_size (a : Array Nat) : ∀ (n : Nat) (acc : Array Nat), ((List.replicate n a).foldl (· ++ ·) acc).size = acc.size + a.size * n
  | 0, acc => by simp
  | n + 1, acc => by
    rw [List.replicate_succ, List.foldl_cons, fold_size a n, Array.size_append, Nat.mul_succ]
    omega
/-- a text, so often -/
def smul (z : Str) (k : Int) : Str := if k < 1 then Str.empty else if (k == 1 || z.length == 0) = true then z else ⟨(List.replicate k.toNat z.cps).foldl (· ++ ·) #[]⟩
section
variable {X : Cx} {Z : Fz} {sp : Spec X.K} {a b : Expr} {pos : Pos}
theorem op_mulS : OpR X (binaryOp .Mult) (fun x y H Q => ∃ z k, x = .str z ∧ y = .int k ∧ (-1000000000 ≤ k ∧ k ≤ 1000000000 ∧ z.length * k.toNat ≤ 16777216) ∧ Q (.str (smul z k)) H) := by
  intro pins s σ H x y v u Q I rx ry h
  obtain ⟨z, k, rfl, rfl, ⟨c1, c2, c3⟩, q⟩ := h
  obtain ⟨t, rfl⟩ := rx
  obtain ⟨t', rfl⟩ := ry
  refine PySem.P.mul_str ?_ (fun h1 _ => ?_) (fun h1 _ => ?_) ?_
  · have h1 : ¬ k < -(2 ^ 63 : Int) := by omega
    have h2 : ¬ k ≥ 2 ^ 63 := by omega
    rw [decide_eq_false h1, decide_eq_false h2]
    rfl
  · have hk : (z.length : Int) * k ≤ 16777216 := by
      have e : ((z.length * k.toNat : Nat) : Int) = (z.length : Int) * k := by rw [Int.natCast_mul, Int.toNat_of_nonneg (by omega)]
      omega
    have : (z.length : Int) ≤ (2 ^ 63 - 1) / k := Int.le_ediv_of_mul_le (by omega) (by omega)
    omega
  · have hn : ¬ (z.length * k.toNat > sizeLine) := by rw [sizeLine_eq]; omega
    exact decide_eq_false hn
  · unfold smul at q
    split
    · rename_i c
      rw [if_pos c] at q
      exact ⟨by decide, .str Str.empty, H, I.tok _, ⟨_, rfl⟩, q⟩
    · rename_i c
      rw [if_neg c] at q
      split
      · rename_i d
        rw [if_pos d] at q
        exact ⟨.str z, H, I, ⟨_, rfl⟩, q⟩
      · rename_i d
        rw [if_neg d] at q
        refine ⟨?_, .str _, H, I.tok _, ⟨_, rfl⟩, q⟩
        show ((List.replicate k.toNat z.cps).foldl (· ++ ·) #[]).size ≤ sizeLine
        rw [fold_size, sizeLine_eq]
        have c4 : z.cps.size * k.toNat ≤ 16777216 := c3
        simpa using c4
/-- a text, so often -/
def smulM (z : Str) (k : Int) : Res Str := gd (-1000000000 ≤ k ∧ k ≤ 1000000000 ∧ z.length * k.toNat ≤ 16777216) (smul z k)
theorem ej_smul {ma : Res Str} {mb : Res Int} (ha : EJ X Z sp a ma eS) (hb : EJ X Z sp b mb eI) : EJ X Z sp (.BinOp a .Mult b pos) (ma.bi fun x => mb.bi fun y => smulM x y) eS := fun F ad σ H Q S hq => by
  refine ofE (pe_op op_mulS pe_w pe_w) ?_
  refine ha F ad σ H _ S (hq.bi.imp fun x q F1 H1 v n1 r1 => ?_)
  refine hb F1 ad σ H1 _ (S.nx n1) (q.bi.imp fun y q F2 H2 u n2 r2 => ?_)
  obtain ⟨c, q⟩ := q.gd
  exact ⟨x, y, r1, r2, c, q F2 H2 _ (n1.trans n2) rfl⟩
theorem stj_val {e : Expr} {δ : Type} {m : Res ((Bool ⊕ Str) × δ)} {spN : δ → Spec X.K} (h : SVJ X Z sp e m eB spN) (he : ∀ whole, isTrue e X.env whole = (do let v ← whole; standAt e.pos; holding [v] (truthy v)) := by intro _; rfl) : STJ X Z sp e m spN := fun F ad σ H Q W S tk hm => by
  refine ofT (pt_val pe_w he) ?_
  refine h F ad σ H _ W S tk (hm.imp fun r q => ?_)
  obtain ⟨r, d⟩ := r
  cases r with
  | inl b => exact fun F' ad' H' v S' hv => ⟨b, hv, q F' ad' H' S'⟩
  | inr c => exact q
end
end Wk

set_option Elab.async false
set_option linter.all false
set_option maxRecDepth 100000
set_option maxHeartbeats 4000000
namespace Wk
open PySem PySem.Spec PyProof.Rows L2
/-! ### a def that changes things of ours and hands back a new tuple with lists in it -/
section
variable {X : Cx} {Z : Fz} {sp : Spec X.K} {a b c e o ce : Expr} {es : List Expr} {pos pos' p p2 fp apos : Pos} {α β γ δ ε ρ θ : Type} {k j i : Nat} {x y : Str} {F F' H H' : Hp} {ad : List Addr} {σ : Sg} {Qr : ρ → Prop} {D : Ends} {st : Stmt} {st' rest body : List Stmt} {t : Option Addr} {tg it : Expr} {ks : List Nat} {ts : List (Option Addr)} {dvs : List V} {obs : δ → List (OT X.K)}
theorem obsP_new {E : PkE X.K β} {s : β} {q : Addr} {l : List Addr} {ks0 : List Nat} {os : List (Ob X.K)} (S : SOk Z F ad sp σ H) (n : Nx F H F' H') (h1 : E.rep F' H' l q s) (nd : (q :: l).Nodup) (hp : H q = none) (hq : ∀ y ∈ q :: l, ((∃ k ∈ ks0, ad[k]? = some y) ∨ H y = none) ∧ F' y = none ∧ Z.G y = none ∧ H' y ≠ none)
    (lo : LeO sp.ob ks os) (hn : ks.Nodup) (hd : ∀ k ∈ ks0, k ∉ ks) : obsP Z.G F' H' (.pk (some q) E s :: os) := by
  have S' := S.nx n
  obtain ⟨L, W⟩ := S.lf
  have W' := W.nx n
  have hk : ∀ k ∈ ks, k < ad.length := fun k hk => by rw [← S.olen]; exact lo.lt hk
  have hg0 : ∀ k, k < ad.length → ad[k]? = some (ad.getD k 0) := fun k hk => by
    rw [List.getD_eq_getElem?_getD, List.getElem?_eq_getElem hk]
    rfl
  have hg : ∀ {i k : Nat}, ks[i]? = some k → (ks.map fun k => ad.getD k 0)[i]? = ad[k]? := fun {i k} h => by
    rw [List.getElem?_map, h]
    exact (hg0 k (hk k (List.mem_of_getElem? h))).symm
  have hin : ∀ a, a ∈ (ks.map fun k => ad.getD k 0) → ∃ k ∈ ks, ad[k]? = some a := fun a ha => by
    obtain ⟨k, h3, rfl⟩ := List.mem_map.mp ha
    exact ⟨k, h3, hg0 k (hk k h3)⟩
  have hst : ∀ a, a ∈ (ks.map fun k => ad.getD k 0) → H a ≠ none := fun a ha => by
    obtain ⟨k, _, h⟩ := hin a ha
    exact S.st a (List.mem_of_getElem? h)
  let L' : Nat → List Addr := fun i => match i with
    | 0 => l
    | i + 1 => match ks[i]? with
      | some k => L k
      | none => []
  have hL : ∀ {i y}, y ∈ L' (i + 1) → ∃ k, ks[i]? = some k ∧ y ∈ L k := fun {i y} hq => by
    have hq : y ∈ (match ks[i]? with
      | some k => L k
      | none => []) := hq
    cases e : ks[i]? with
    | none => rw [e] at hq; cases hq
    | some k => rw [e] at hq; exact ⟨k, rfl, hq⟩
  have nd2 := List.nodup_cons.mp nd
  refine ⟨q :: (ks.map fun k => ad.getD k 0), L', by rw [List.length_cons, List.length_cons, List.length_map, lo.len], ?_, fun a ha => ?_, fun i o h => ?_, fun i y hy => ?_, fun i y hy i' hy' => ?_, fun i => ?_, fun i α' t' e' s' h => ?_⟩
  · refine List.nodup_cons.mpr ⟨fun z => hst q z hp, List.pairwise_iff_getElem.mpr fun i j hi hj hij e => ?_⟩
    simp only [List.length_map] at hi hj
    simp only [List.getElem_map] at e
    have l1 := hk _ (List.getElem_mem hi)
    have l2 := hk _ (List.getElem_mem hj)
    rw [List.getD_eq_getElem?_getD, List.getD_eq_getElem?_getD, List.getElem?_eq_getElem l1, List.getElem?_eq_getElem l2] at e
    have e2 : ks[i] = ks[j] := (List.getElem_inj S.nd).mp e
    exact absurd ((List.getElem_inj hn).mp e2) (Nat.ne_of_lt hij)
  · rcases List.mem_cons.mp ha with rfl | ha
    · exact (hq a (List.mem_cons_self ..)).2.2.2
    · obtain ⟨k, _, h⟩ := hin a ha
      exact S'.st a (List.mem_of_getElem? h)
  · cases i with
    | zero =>
      simp at h
      subst h
      exact ⟨q, rfl, trivial⟩
    | succ i =>
      obtain ⟨k, g1, g2⟩ := lo.get (i := i) (by simpa using h)
      obtain ⟨p, g3, g4⟩ := S'.ob k o g2
      refine ⟨p, ?_, g4⟩
      rw [List.getElem?_cons_succ, hg g1]
      exact g3
  · cases i with
    | zero =>
      have hy : y ∈ l := hy
      obtain ⟨e1, e2⟩ := hq y (List.mem_cons_of_mem _ hy)
      refine ⟨fun z => ?_, e2⟩
      rcases List.mem_cons.mp z with z | z
      · exact nd2.1 (z ▸ hy)
      · obtain ⟨k, m1, m2⟩ := hin y z
        rcases e1 with ⟨k0, n1, n2⟩ | e1
        · have l1 := getElem?_some_of m2
          have l2 := getElem?_some_of n2
          rw [List.getElem?_eq_getElem l1] at m2
          rw [List.getElem?_eq_getElem l2] at n2
          have e2 : k0 = k := (List.getElem_inj S.nd).mp ((Option.some.inj n2).trans (Option.some.inj m2).symm)
          exact hd k0 n1 (e2 ▸ m1)
        · exact hst y z e1
    | succ i =>
      obtain ⟨k, e, hy⟩ := hL hy
      obtain ⟨a1, b1⟩ := W'.di k y hy
      refine ⟨fun z => ?_, b1⟩
      rcases List.mem_cons.mp z with z | z
      · exact (W.di k y hy).2.2.2 (z ▸ hp)
      · obtain ⟨k', _, m2⟩ := hin y z
        exact a1 (List.mem_of_getElem? m2)
  · have nl : ∀ {i : Nat}, y ∈ l → y ∈ L' (i + 1) → False := fun {i} h0 h1 => by
      obtain ⟨k, e, hy⟩ := hL h1
      rcases (hq y (List.mem_cons_of_mem _ h0)).1 with ⟨k0, n1, n2⟩ | e1
      · exact (W.di k y hy).1 (List.mem_of_getElem? n2)
      · exact (W.di k y hy).2.2.2 e1
    cases i with
    | zero =>
      cases i' with
      | zero => rfl
      | succ i' => exact (nl hy hy').elim
    | succ i =>
      cases i' with
      | zero => exact (nl hy' hy).elim
      | succ i' =>
        obtain ⟨k, e, hy⟩ := hL hy
        obtain ⟨k', e', hy'⟩ := hL hy'
        have ek := W.un k y hy k' hy'
        subst ek
        have l1 := getElem?_some_of e
        have l2 := getElem?_some_of e'
        rw [List.getElem?_eq_getElem l1] at e
        rw [List.getElem?_eq_getElem l2] at e'
        exact congrArg (· + 1) ((List.getElem_inj hn).mp ((Option.some.inj e').trans (Option.some.inj e).symm))
  · cases i with
    | zero => exact nd2.2
    | succ i =>
      show (match ks[i]? with
        | some k => L k
        | none => []).Nodup
      split
      · exact W.nd _
      · exact List.nodup_nil
  · cases i with
    | zero =>
      simp at h
      obtain ⟨rfl, h⟩ := h
      obtain ⟨rfl, h⟩ := h
      cases h.1
      cases h.2
      obtain ⟨e1, e2, e3, e4⟩ := hq q (List.mem_cons_self ..)
      exact ⟨q, rfl, h1, e2, e3, fun z hz => Option.some.inj hz⟩
    | succ i =>
      obtain ⟨k, g1, g2⟩ := lo.get (i := i) (by simpa using h)
      obtain ⟨p, g3, g4⟩ := W'.ok k _ _ _ _ g2
      refine ⟨p, by rw [List.getElem?_cons_succ, hg g1]; exact g3, ?_⟩
      show pkOk _ _ _ _ _ (match ks[i]? with
        | some k => L k
        | none => []) _ _
      rw [g1]
      exact g4
/-- return such a thing -/
theorem bj_rpRT {E : PkE X.K β} {ks0 : List Nat} {Qr : (β ⊕ Str) × δ → Prop} {m : Res β} {qs : List Addr} (d : δ) (hR : RTP Z (rpR (kT E) obs) qs Qr D.rt) (h : MPJ X Z sp e m E ks0) (lo : LeO sp.ob ks (zipA qs (obs d))) (hn : ks.Nodup := by decide) (hd : ∀ k ∈ ks0, k ∉ ks := by decide) : BJ X Z Qr D sp (.Return (some e) pos :: rest) (m.bi fun r => .ok (.inl r, d)) := fun F ad σ H S hm => by
  refine seq (ofS (ps_ret pe_w) ?_)
  refine h F ad σ H _ S (hm.bi.imp fun r q F' H' p l n h1 h2 h3 h4 => ?_)
  exact hR (.inl r, d) F' H' (.ref p) (S.nx n).fwdP ⟨r, rfl, ⟨p, rfl⟩, obsP_new S n h1 h2 h3 h4 lo hn hd⟩ q
theorem bj_rpRT_p {E : PkE X.K β} {ks0 : List Nat} {Qr : (β ⊕ Str) × δ → Prop} {r : β} {qs : List Addr} (d : δ) (hR : RTP Z (rpR (kT E) obs) qs Qr D.rt) (h : MPJ X Z sp e (.ok r) E ks0) (lo : LeO sp.ob ks (zipA qs (obs d))) (hn : ks.Nodup := by decide) (hd : ∀ k ∈ ks0, k ∉ ks := by decide) : BJ X Z Qr D sp (.Return (some e) pos :: rest) (.ok (.inl r, d)) := bj_rpRT d hR h lo hn hd
/-- a and y.m(..) -/
theorem stj_pand {ma : Res Bool} {m : Res ((Bool ⊕ Str) × δ)} {spN : δ → Spec X.K} (d0 : δ) (ha : TJ X Z sp a ma) (hb : STJ X Z sp b m spN) (h0 : spN d0 = sp) : STJ X Z sp (.BoolOp .And [a, b] pos) (ma.bi fun x => if x then m else .ok (.inl false, d0)) spN := fun F ad σ H Q W S tk hm => by
  refine ofT (PW.pt pw_w) ?_
  refine ofW (pw_and pt_w pw_w) (ha F ad σ H _ S (hm.bi.imp fun c q F' H' n => ?_))
  cases c with
  | false => exact q F' ad H' (by rw [h0]; exact S.nx n)
  | true => exact ofW (pw_and1 pt_w) (hb F' ad σ H' Q W (S.nx n) tk q)
/-- a or y.m(..) -/
theorem stj_por {ma : Res Bool} {m : Res ((Bool ⊕ Str) × δ)} {spN : δ → Spec X.K} (d0 : δ) (ha : TJ X Z sp a ma) (hb : STJ X Z sp b m spN) (h0 : spN d0 = sp) : STJ X Z sp (.BoolOp .Or [a, b] pos) (ma.bi fun x => if x then .ok (.inl true, d0) else m) spN := fun F ad σ H Q W S tk hm => by
  refine ofT (PW.pt pw_w) ?_
  refine ofW (pw_or pt_w pw_w) (ha F ad σ H _ S (hm.bi.imp fun c q F' H' n => ?_))
  cases c with
  | true => exact q F' ad H' (by rw [h0]; exact S.nx n)
  | false => exact ofW (pw_or1 pt_w) (hb F' ad σ H' Q W (S.nx n) tk q)
/-- y.m(..) and b -/
theorem stj_and {m : Res ((Bool ⊕ Str) × δ)} {spN : δ → Spec X.K} {mb : δ → Res Bool} (ha : STJ X Z sp a m spN) (hb : ∀ d, WJ X Z (spN d) (.BoolOp .And [b] pos) (mb d)) : STJ X Z sp (.BoolOp .And [a, b] pos) (m.bi (sof fun x d => if x then mb d else .ok false)) spN := fun F ad σ H Q W S tk hm => by
  refine ofT (PW.pt pw_w) ?_
  refine ofW (pw_and pt_w pw_w) ?_
  refine ha F ad σ H _ W S tk (hm.bi.imp fun r q => ?_)
  obtain ⟨r, d⟩ := r
  cases r with
  | inr c => exact q
  | inl v =>
    intro F' ad' H' S'
    cases v with
    | false => exact q F' ad' H' S'
    | true => exact hb d F' ad' σ H' _ S' ((mwp.bi q).imp fun c q F2 H2 n => q F2 ad' H2 (S'.nx n))
/-- one of them is let go -/
theorem SOk.dead {L : Nat → List Addr} (S : SOk Z F ad sp σ H) (W : LfW Z.G F H ad sp.ob L) : SOk Z F ad ⟨sp.sl, sp.ob.set k .dead⟩ σ H ∧ LfW Z.G F H ad (sp.ob.set k .dead) (fun i => if i = k then [] else L i) := by
  have W2 : LfW Z.G F H ad (sp.ob.set k .dead) (fun i => if i = k then [] else L i) := by
    refine ⟨fun i y hy => ?_, fun i y hy i' hy' => ?_, fun i => ?_, fun i α' t' e' s' h => ?_⟩
    · have hy : y ∈ (if i = k then [] else L i) := hy
      split at hy
      · cases hy
      · exact W.di i y hy
    · have hy : y ∈ (if i = k then [] else L i) := hy
      have hy' : y ∈ (if i' = k then [] else L i') := hy'
      split at hy
      · cases hy
      · split at hy'
        · cases hy'
        · exact W.un i y hy i' hy'
    · show (if i = k then [] else L i).Nodup
      split
      · exact List.nodup_nil
      · exact W.nd i
    · by_cases e : i = k
      · subst e
        by_cases hl : i < sp.ob.length
        · rw [List.getElem?_set_self hl] at h
          cases h
        · rw [List.getElem?_eq_none (by rw [List.length_set]; omega)] at h
          cases h
      · rw [List.getElem?_set_ne (Ne.symm e)] at h
        obtain ⟨p, h1, h2⟩ := W.ok i _ _ _ _ h
        refine ⟨p, h1, ?_⟩
        show pkOk _ _ _ _ _ (if i = k then [] else L i) _ _
        rw [if_neg e]
        exact h2
  refine ⟨⟨S.f0, S.fh, S.gh, S.fg, S.nd, S.st, S.len, S.sl, by simp [S.olen], fun i o h => ?_, _, W2⟩, W2⟩
  have h : (sp.ob.set k .dead)[i]? = some o := h
  by_cases e : i = k
  · subst e
    by_cases hl : i < sp.ob.length
    · rw [List.getElem?_set_self hl] at h
      cases h
      exact ⟨_, List.getElem?_eq_getElem (by rw [← S.olen]; exact hl), trivial⟩
    · rw [List.getElem?_eq_none (by rw [List.length_set]; omega)] at h
      cases h
  · rw [List.getElem?_set_ne (Ne.symm e)] at h
    exact S.ob i o h
/-- a list that is nobody's becomes ours -/
theorem SOk.adopt {en : Enc X.K α} {xs : List α} {q : Addr} {vs : List V} {L : Nat → List Addr} (S : SOk Z F ad sp σ H) (W : LfW Z.G F H ad sp.ob L) (hq : q ∉ ad) (hF : F q = none) (hG : Z.G q = none) (hL : ∀ k, q ∉ L k) (hH : H q = some (.lst vs)) (hz : vs.length ≤ sizeLine) (r : Reps en F vs xs) :
    SOk Z F (ad ++ [q]) ⟨sp.sl, sp.ob ++ [.lst none en xs]⟩ σ H ∧ LfW Z.G F H (ad ++ [q]) (sp.ob ++ [.lst none en xs]) L := by
  have W2 : LfW Z.G F H (ad ++ [q]) (sp.ob ++ [.lst none en xs]) L := by
    refine ⟨fun i y hy => ?_, W.un, W.nd, fun i α' t' e' s' h => ?_⟩
    · obtain ⟨a1, a2⟩ := W.di i y hy
      refine ⟨fun z => ?_, a2⟩
      rcases List.mem_append.mp z with z | z
      · exact a1 z
      · rw [List.mem_singleton] at z
        exact hL i (z ▸ hy)
    · by_cases hi : i < sp.ob.length
      · rw [List.getElem?_append_left hi] at h
        obtain ⟨p, h1, h2⟩ := W.ok i _ _ _ _ h
        exact ⟨p, by rw [List.getElem?_append_left (getElem?_some_of h1)]; exact h1, h2⟩
      · have hl := getElem?_some_of h
        have e : i = sp.ob.length := by simp at hl; omega
        subst e
        simp at h
  refine ⟨⟨S.f0, S.fh, S.gh, S.fg, ?_, fun a ha => ?_, S.len, fun i s h => ?_, by simp [S.olen], fun i o h => ?_, L, W2⟩, W2⟩
  · rw [List.nodup_append]
    exact ⟨S.nd, by simp, fun a ha b hb e => hq (by simp at hb; rw [← hb, ← e]; exact ha)⟩
  · rcases List.mem_append.mp ha with ha | ha
    · exact S.st a ha
    · simp at ha
      rw [ha, hH]
      exact fun z => nomatch z
  · obtain ⟨o, h1, h2⟩ := S.sl i s h
    exact ⟨o, h1, h2.push q⟩
  · have h : (sp.ob ++ [.lst none en xs])[i]? = some o := h
    by_cases hi : i < sp.ob.length
    · rw [List.getElem?_append_left hi] at h
      obtain ⟨p, h1, h2⟩ := S.ob i o h
      exact ⟨p, by rw [List.getElem?_append_left (getElem?_some_of h1)]; exact h1, h2⟩
    · have hl := getElem?_some_of h
      have e : i = sp.ob.length := by simp at hl; omega
      subst e
      simp at h
      subst h
      exact ⟨q, by rw [S.olen]; simp, vs, hH, hz, r, hF, hG, fun y z => nomatch z⟩
/-- a, b, c = such a call: a value and two new lists -/
theorem bj_caU3 {e1 : Enc X.K α} {e2 : Enc X.K β} {e3 : Enc X.K γ} {kv : α × List β × List γ → δ → Res ρ} {kx : Str → δ → Res ρ} {m : Res (((α × List β × List γ) ⊕ Str) × δ)} {i1 i2 i3 : Nat} {y1 y2 y3 : Str} {p1 p2 p3 : Pos} {tk : Nat} (am : Amb X Z k)
    (cp : CPJ X Z sp ce m (rpR (kT (pkI .tup (vwC (fV e1) (vwC (fL e2) (vw1 (fL e3)))))) obs) ks) (tgs : TagsP sp.ob ks ts)
    (hr : ∀ v d, BJ X Z Qr D ⟨((sp.sl.set i1 (.val e1 v.1)).set i2 (.own (sp.ob.length + 1))).set i3 (.own (sp.ob.length + 2)), ((putO sp.ob ks (zipT ts (obs d)) ++ [.dead]) ++ [.lst none e2 v.2.1]) ++ [.lst none e3 v.2.2]⟩ rest (kv v d))
    (xh : XH X Z Qr (fun d => ⟨sp.sl, putO sp.ob ks (zipT ts (obs d))⟩) kx) (nk : ks.Nodup := by decide) (hol : ∀ d, (obs d).length = ks.length := by intro d; rfl)
    (hi1 : X.N[i1]? = some y1 := by rfl) (hi2 : X.N[i2]? = some y2 := by rfl) (hi3 : X.N[i3]? = some y3 := by rfl)
    (hx1 : Loc X.env.scope y1 := by first | exact Or.inl rfl | exact Or.inr rfl) (hx2 : Loc X.env.scope y2 := by first | exact Or.inl rfl | exact Or.inr rfl) (hx3 : Loc X.env.scope y3 := by first | exact Or.inl rfl | exact Or.inr rfl)
    (hf1 : X.fn y1 = true ∨ X.env.scope.names.lookup y1 = some .local := by first | exact .inl rfl | exact .inr rfl) (hf2 : X.fn y2 = true ∨ X.env.scope.names.lookup y2 = some .local := by first | exact .inl rfl | exact .inr rfl) (hf3 : X.fn y3 = true ∨ X.env.scope.names.lookup y3 = some .local := by first | exact .inl rfl | exact .inr rfl)
    (hlen : (assignEach [.Name y1 p1, .Name y2 p2, .Name y3 p3] X.env).length = 3 := by rfl) (hst : (assignEach [.Name y1 p1, .Name y2 p2, .Name y3 p3] X.env).findIdx? (·.1) = none := by rfl)
    (ha1 : (assignEach [.Name y1 p1, .Name y2 p2, .Name y3 p3] X.env).map (·.2) = assign (.Name y1 p1) X.env :: (assignEach [.Name y2 p2, .Name y3 p3] X.env).map (·.2) := by rfl) (ha2 : (assignEach [.Name y2 p2, .Name y3 p3] X.env).map (·.2) = assign (.Name y2 p2) X.env :: (assignEach [.Name y3 p3] X.env).map (·.2) := by rfl) (ha3 : (assignEach [.Name y3 p3] X.env).map (·.2) = assign (.Name y3 p3) X.env :: (assignEach [] X.env).map (·.2) := by rfl)
    (hs : swapsWithSole [.Tuple [.Name y1 p1, .Name y2 p2, .Name y3 p3] tk p] ce pos.line X.env = pure false := by rfl) (hw : swappedStores [.Tuple [.Name y1 p1, .Name y2 p2, .Name y3 p3] tk p] ce X.env = pure none := by rfl) (h1 : (assignEach [.Tuple [.Name y1 p1, .Name y2 p2, .Name y3 p3] tk p] X.env).map (·.2) = [assign (.Tuple [.Name y1 p1, .Name y2 p2, .Name y3 p3] tk p) X.env] := by rfl) :
    BJ X Z Qr D sp (.Assign [.Tuple [.Name y1 p1, .Name y2 p2, .Name y3 p3] tk p] ce pos :: rest) (m.bi (outc kv kx)) := fun F ad σ H S hm => by
  obtain ⟨W, tk, hW⟩ := xh
  refine seq (ofS (ps_asg pe_w (pg_tup (n := 3) am.calm (pgs_cons (pg_name am.nd hi1 hx1 hf1) (pgs_cons (pg_name am.nd hi2 hx2 hf2) (pgs_cons (pg_name am.nd hi3 hx3 hf3) pgs_nil ha3) ha2) ha1) hlen hst) hs hw h1) ?_)
  refine cp F ad σ H _ W S tk ((mwp_out hm).imp fun r q => ⟨fun F1 H1 F' H' ps L n W0 pk nd fw => ⟨fun v hr' => ?_, fun c C hx hC => ?_⟩⟩)
  · obtain ⟨b, e1', ⟨p0, rfl⟩, op⟩ := hr'
    obtain ⟨r1, d⟩ := r
    have e1' : r1 = .inl b := e1'
    subst e1'
    obtain ⟨ad', hp, S'⟩ := out_stT (obs := obs) S n W0 pk nd nk tgs (hol d) fw op
    have hl : (putO sp.ob ks (zipT ts (obs d))).length = sp.ob.length := putO_len
    have hob : (putO sp.ob ks (zipT ts (obs d)) ++ [Ob.pk none (pkI .tup (vwC (fV e1) (vwC (fL e2) (vw1 (fL e3))))) b])[sp.ob.length]? = some (.pk none (pkI .tup (vwC (fV e1) (vwC (fL e2) (vw1 (fL e3))))) b) := by rw [← hl]; exact get_last
    obtain ⟨L2, W2⟩ := S'.lf
    obtain ⟨q0, g1, ⟨hdo, vs, k1, k2, k3⟩, k4, k5, k6⟩ := W2.ok _ _ _ _ _ hob
    have g1 : ad'[sp.ob.length]? = some q0 := g1
    rw [hp] at g1
    cases g1
    have k2 : hdo = .tup vs := k2
    subst k2
    have k3 : FdOk F' H' [Fd.val e1 b.1, Fd.lst e2 b.2.1, Fd.lst e3 b.2.2] vs (L2 sp.ob.length) := k3
    have W2n := W2.nd sp.ob.length
    have W2d := W2.di sp.ob.length
    have W2u := W2.un sp.ob.length
    obtain ⟨S3, W3⟩ := S'.dead (k := sp.ob.length) W2
    have es : (putO sp.ob ks (zipT ts (obs d)) ++ [Ob.pk none (pkI .tup (vwC (fV e1) (vwC (fL e2) (vw1 (fL e3))))) b]).set sp.ob.length .dead = putO sp.ob ks (zipT ts (obs d)) ++ [.dead] := by rw [← hl]; exact set_last
    have S3 : SOk Z F' ad' ⟨sp.sl, (putO sp.ob ks (zipT ts (obs d)) ++ [Ob.pk none (pkI .tup (vwC (fV e1) (vwC (fL e2) (vw1 (fL e3))))) b]).set sp.ob.length .dead⟩ σ H' := S3
    have W3 : LfW Z.G F' H' ad' ((putO sp.ob ks (zipT ts (obs d)) ++ [Ob.pk none (pkI .tup (vwC (fV e1) (vwC (fL e2) (vw1 (fL e3))))) b]).set sp.ob.length .dead) (fun i => if i = sp.ob.length then [] else L2 i) := W3
    rw [es] at S3 W3
    generalize hlo : L2 sp.ob.length = lo at k3 W2n W2d W2u
    cases k3 with
    | val a0 r =>
      rename_i v1 vs1
      cases r with
      | one a1 a2 r =>
        rename_i q1 o1 vs1 l1
        cases r with
        | one b1 b2 r =>
          rename_i q2 o2 vs2 l2
          cases r
          obtain ⟨us1, rfl, a3, a4⟩ := a2
          obtain ⟨us2, rfl, b3, b4⟩ := b2
          have ne : q1 ≠ q2 := fun z => by
            subst z
            simp at W2n
          have nL : ∀ z, z ∈ [q1, q2] → ∀ i, z ∉ (if i = sp.ob.length then [] else L2 i) := fun z hz i w => by
            split at w
            · cases w
            · rename_i hne
              exact hne (W2u z hz i w)
          obtain ⟨m1, m2, m3, m4⟩ := W2d q1 (by simp)
          obtain ⟨m5, m6, m7, m8⟩ := W2d q2 (by simp)
          obtain ⟨S4, W4⟩ := S3.adopt W3 m1 m2 m3 (nL q1 (by simp)) a1 a3 a4
          obtain ⟨S5, W5⟩ := S4.adopt W4 (q := q2) (by
            intro z
            rcases List.mem_append.mp z with z | z
            · exact m5 z
            · rw [List.mem_singleton] at z
              exact ne z.symm) m6 m7 (nL q2 (by simp)) b1 b3 b4
          have hla : ad'.length = sp.ob.length + 1 := by
            have := S'.olen
            simp [hl] at this
            omega
          refine ⟨p0, [v1, .ref q1, .ref q2], rfl, SqT.of k1, rfl, v1, [.ref q1, .ref q2], rfl, .ref q1, [.ref q2], rfl, .ref q2, [], rfl, rfl, ?_⟩
          refine hr b d F' _ _ H' (((S5.set (i := i1) (s := .val e1 b.1) (v := v1) ⟨v1, rfl, a0⟩).set (i := i2) (s := .own (sp.ob.length + 1)) (v := .ref q1) ⟨q1, ?_, rfl⟩).set (i := i3) (s := .own (sp.ob.length + 2)) (v := .ref q2) ⟨q2, ?_, rfl⟩) q
          · rw [List.getElem?_append_left (by simp; omega), List.getElem?_append_right (by omega), hla, Nat.sub_self]
            rfl
          · rw [List.getElem?_append_right (by simp; omega)]
            simp [hla]
  · obtain ⟨e1', op⟩ := hx
    obtain ⟨r1, d⟩ := r
    have e1' : r1 = .inr c := e1'
    subst e1'
    obtain ⟨ad', S'⟩ := out_st (obs := obs) S n W0 pk nd nk tgs (hol d) fw op
    exact hW c d F' ad' σ H' C S' q hC
end
end Wk

set_option Elab.async false
set_option linter.all false
set_option maxRecDepth 100000
set_option maxHeartbeats 4000000
namespace Wk
open PySem PySem.Spec PyProof.Rows L2
/-! ### texts: split, join, int, str, a text in a text -/
theorem reps_S {K : Frag} {F : Hp} : ∀ (ys : List Str), Reps (eS : Enc K Str) F (ys.map V.str) ys
  | [] => .nil
  | _ :: ys => .cons rfl (reps_S ys)
theorem reps_S_eq {K : Frag} {F : Hp} : ∀ {vs : List V} {ys : List Str}, Reps (eS : Enc K Str) F vs ys → vs = ys.map V.str
  | _, _, .nil => rfl
  | _, _, .cons r t => by
    have r : _ = V.str _ := r
    rw [r, reps_S_eq t]
    rfl
section
variable {X : Cx} {Z : Fz} {sp : Spec X.K} {a b : Expr} {pos apos fp : Pos}
def splitM (x y : Str) : Res (List Str) := gd ((y.length == 0) = false ∧ x.length + 2 ≤ sizeLine) (Txt.split x y)
theorem fj_split {ma mb : Res Str} (ha : EJ X Z sp a ma eS) (hb : EJ X Z sp b mb eS) (hs : starEach [b] X.env = [(false, eval b X.env)] := by rfl) (hline : (apos.endLine == pos.line) = true := by rfl)
    (hbase : attributeBase a "split" X.env (eval a X.env) = eval a X.env := by rfl) : FJ X Z sp (.Call (.Attribute a "split" apos) [b] [] pos) (ma.bi fun x => mb.bi fun y => splitM x y) eS := fun F ad σ H Q S hm => by
  refine ofE (pe_split pe_w pe_w hs hbase hline) ?_
  refine ha F ad σ H _ S (hm.bi.imp fun x q0 F1 H1 v n1 r1 => ⟨⟨x, r1⟩, ?_⟩)
  refine hb F1 ad σ H1 _ (S.nx n1) (q0.bi.imp fun y q F2 H2 u n2 r2 => ?_)
  obtain ⟨⟨c1, c2⟩, q⟩ := q.gd
  have r2 : u = .str y := r2
  subst r2
  refine ⟨x, y, r1, rfl, c1, c2, fun p hp => ?_⟩
  have n := n1.trans n2
  obtain ⟨g1, g2⟩ := n.free hp
  refine q F2 _ p ((Txt.split x y).map V.str) (n.new hp) g1 g2 upd_same (by rw [List.length_map]; exact Nat.le_trans (PyProof.Rows.split_le x y) c2) (reps_S _)
/-- sep.join(texts) -/
def joinM (x : Str) (ys : List Str) : Res Str := gd ((ys.map (·.length)).sum + ys.length * x.length ≤ 16777216) (Txt.join x ys)
theorem ej_join {ma : Res Str} {mb : Res (List Str)} (ha : EJ X Z sp a ma eS) (hb : LJ X Z sp b mb eS) (hs : starEach [b] X.env = [(false, eval b X.env)] := by rfl) (hline : (apos.endLine == pos.line) = true := by rfl)
    (hbase : attributeBase a "join" X.env (eval a X.env) = eval a X.env := by rfl) : EJ X Z sp (.Call (.Attribute a "join" apos) [b] [] pos) (ma.bi fun x => mb.bi fun y => joinM x y) eS := fun F ad σ H Q S hm => by
  refine ofE (pe_join pe_w pe_w hs hbase hline) ?_
  refine ha F ad σ H _ S (hm.bi.imp fun x q0 F1 H1 v n1 r1 => ⟨⟨x, r1⟩, ?_⟩)
  refine hb F1 ad σ H1 _ (S.nx n1) (q0.bi.imp fun ys q F2 H2 p vs n2 h1 hz r2 => ?_)
  obtain ⟨c, q⟩ := q.gd
  have e := reps_S_eq r2
  subst e
  exact ⟨x, p, ys, r1, rfl, .inl h1, c, q F2 H2 _ (n1.trans n2) rfl⟩
/-- str(a number) -/
def strM (i : Int) : Res Str := gd (i.natAbs.log2 < 1920) (Str.ofString (toString i))
theorem ej_strI {m : Res Int} (hm : X.mg "str" = none) (h : EJ X Z sp a m eI) (hg : Gl X "str" := by rfl) (hn : nst a = true := by rfl) : EJ X Z sp (.Call (.Name "str" fp) [a] [] pos) (m.bi strM) eS := fun F ad σ H Q S hq => by
  refine ofE (callT1 call_str_int hg hm PyProof.Rows.boot_str hn) ?_
  refine h F ad σ H _ S (hq.bi.imp fun i q F1 H1 v n1 r1 => ?_)
  obtain ⟨c, q⟩ := q.gd
  have r1 : v = .int i := r1
  subst r1
  exact ⟨i, rfl, c, q F1 H1 _ n1 rfl⟩
/-- int(a text) -/
def intSM (x : Str) : Res Int := match PySem.intText? x with
  | some n => gd (x.length ≤ 640) n
  | none => .bad
theorem ej_intS {m : Res Str} (hm : X.mg "int" = none) (h : EJ X Z sp a m eS) (hg : Gl X "int" := by rfl) (hn : nst a = true := by rfl) : EJ X Z sp (.Call (.Name "int" fp) [a] [] pos) (m.bi intSM) eI := fun F ad σ H Q S hq => by
  refine ofE (callT1 call_int_str hg hm PyProof.Rows.boot_int hn) ?_
  refine h F ad σ H _ S (hq.bi.imp fun x q F1 H1 v n1 r1 => ?_)
  unfold intSM at q
  cases e : PySem.intText? x with
  | none => rw [e] at q; exact q.elim
  | some n =>
    rw [e] at q
    obtain ⟨c, q⟩ := mwp.gd q
    have r1 : v = .str x := r1
    subst r1
    exact ⟨x, n, rfl, e, c, q F1 H1 _ n1 rfl⟩
/-- a text in a text -/
def inSS (x z : Str) : Bool := !(PySem.Builtin.Str.occurrences z x 0 z.length 1).isEmpty
theorem op_in_text : OpR X (compareOp .In) (fun x y H Q => ∃ (c z : Str), x = .str c ∧ y = .str z ∧ Q (.bl (inSS c z)) H) := by
  intro pins s σ H x y v u Q I rx ry h
  obtain ⟨c, z, rfl, rfl, q⟩ := h
  obtain ⟨t, rfl⟩ := rx
  obtain ⟨t', rfl⟩ := ry
  exact PyProof.Rows.in_str (fin_bl I q rfl)
theorem cj_inSS {ma mb : Res Str} (ha : EJ X Z sp a ma eS) (hb : EJ X Z sp b mb eS) : CJ X Z sp .In a b (ma.bi fun x => mb.bi fun z => .ok (inSS x z)) := ⟨_, op_in_text, fun F ad σ H Q S hm => by
  refine ha F ad σ H _ S (hm.bi.imp fun x q0 F1 H1 v n1 r1 => ?_)
  refine hb F1 ad σ H1 _ (S.nx n1) (q0.bi.imp fun z q F2 H2 u n2 r2 => ?_)
  exact ⟨x, z, r1, r2, q F2 H2 (n1.trans n2)⟩⟩
end
end Wk
namespace Wk
open PySem PySem.Spec PyProof.Rows L2
section
variable {X : Cx} {Z : Fz} {sp : Spec X.K} {a b : Expr} {pos apos fp : Pos}
theorem fj_split_p {x y : Str} (ha : EJ X Z sp a (.ok x) eS) (hb : EJ X Z sp b (.ok y) eS) (hs : starEach [b] X.env = [(false, eval b X.env)] := by rfl) (hline : (apos.endLine == pos.line) = true := by rfl)
    (hbase : attributeBase a "split" X.env (eval a X.env) = eval a X.env := by rfl) : FJ X Z sp (.Call (.Attribute a "split" apos) [b] [] pos) (splitM x y) eS := fj_split ha hb hs hline hbase
theorem ej_join_p {x : Str} {ys : List Str} (ha : EJ X Z sp a (.ok x) eS) (hb : LJ X Z sp b (.ok ys) eS) (hs : starEach [b] X.env = [(false, eval b X.env)] := by rfl) (hline : (apos.endLine == pos.line) = true := by rfl)
    (hbase : attributeBase a "join" X.env (eval a X.env) = eval a X.env := by rfl) : EJ X Z sp (.Call (.Attribute a "join" apos) [b] [] pos) (joinM x ys) eS := ej_join ha hb hs hline hbase
theorem ej_strI_p {i : Int} (hm : X.mg "str" = none) (h : EJ X Z sp a (.ok i) eI) (hg : Gl X "str" := by rfl) (hn : nst a = true := by rfl) : EJ X Z sp (.Call (.Name "str" fp) [a] [] pos) (strM i) eS := ej_strI hm h hg hn
theorem ej_intS_p {x : Str} (hm : X.mg "int" = none) (h : EJ X Z sp a (.ok x) eS) (hg : Gl X "int" := by rfl) (hn : nst a = true := by rfl) : EJ X Z sp (.Call (.Name "int" fp) [a] [] pos) (intSM x) eI := ej_intS hm h hg hn
theorem cj_inSS_p {x z : Str} (ha : EJ X Z sp a (.ok x) eS) (hb : EJ X Z sp b (.ok z) eS) : CJ X Z sp .In a b (.ok (inSS x z)) := cj_inSS ha hb
end
end Wk

set_option Elab.async false
set_option linter.all false
set_option maxRecDepth 100000
set_option maxHeartbeats 4000000
namespace Wk
open PySem PySem.Spec PyProof.Rows L2
/-! ### items of several kinds: a number, a text, numbers in a tuple, in a list -/
inductive Dt where
  | i (n : Int) | s (x : Str) | t (xs : List Int) | l (xs : List Int)
  deriving DecidableEq
instance : Inhabited Dt := ⟨.i 0⟩
section
variable {K : Frag}
def eIt (lb : Bool) : Enc K Dt := ⟨fun F v a => match a with
  | .i n => (eI (K := K)).rep F v n
  | .s x => (eS (K := K)).rep F v x
  | .t xs => (eTL (eI (K := K))).rep F v xs
  | .l xs => lb = true ∧ (eL (eI (K := K))).rep F v xs, fun {F F' v a} s h => by
  cases a with
  | i n => exact (eI (K := K)).mono s h
  | s x => exact (eS (K := K)).mono s h
  | t xs => exact (eTL (eI (K := K))).mono s h
  | l xs => exact ⟨h.1, (eL (eI (K := K))).mono s h.2⟩⟩
def datIt : Dt → PyData
  | .i n => .int n
  | .s x => .str x
  | .t xs => .tuple (xs.map .int)
  | .l xs => .list (xs.map .int)
def eqIt {lb : Bool} : EqE (eIt (K := K) lb) := ⟨datIt, fun {F H v a} s h => by
  cases a with
  | i n => exact (eqI (K := K)).dp s h
  | s x => exact (eqS (K := K)).dp s h
  | t xs => exact (eqTL (eqI (K := K))).dp s h
  | l xs => exact (eqL (eqI (K := K))).dp s h.2, fun a => by
  cases a with
  | i n => exact (eqI (K := K)).pl n
  | s x => exact (eqS (K := K)).pl x
  | t xs => exact (eqTL (eqI (K := K))).pl xs
  | l xs => exact (eqL (eqI (K := K))).pl xs, fun a b => by
  have off : ∀ {p : Prop} [Decidable p] {x : Bool}, x = false → ¬p → x = decide p := fun h n => by rw [h, decide_eq_false n]
  cases a with
  | i n =>
    cases b with
    | i m => exact ((eqI (K := K)).eqv n m).trans (by simp)
    | s y => exact off (by simp [datIt, PyData.eqv]) (fun z => by cases z)
    | t ys => exact off (by simp [datIt, PyData.eqv]) (fun z => by cases z)
    | l ys => exact off (by simp [datIt, PyData.eqv]) (fun z => by cases z)
  | s x =>
    cases b with
    | i m => exact off (by simp [datIt, PyData.eqv]) (fun z => by cases z)
    | s y => exact ((eqS (K := K)).eqv x y).trans (by simp)
    | t ys => exact off (by simp [datIt, PyData.eqv]) (fun z => by cases z)
    | l ys => exact off (by simp [datIt, PyData.eqv]) (fun z => by cases z)
  | t xs =>
    cases b with
    | i m => exact off (by simp [datIt, PyData.eqv]) (fun z => by cases z)
    | s y => exact off (by simp [datIt, PyData.eqv]) (fun z => by cases z)
    | t ys => exact ((eqTL (eqI (K := K))).eqv xs ys).trans (by simp)
    | l ys => exact off (by simp [datIt, PyData.eqv]) (fun z => by cases z)
  | l xs =>
    cases b with
    | i m => exact off (by simp [datIt, PyData.eqv]) (fun z => by cases z)
    | s y => exact off (by simp [datIt, PyData.eqv]) (fun z => by cases z)
    | t ys => exact off (by simp [datIt, PyData.eqv]) (fun z => by cases z)
    | l ys => exact ((eqL (eqI (K := K))).eqv xs ys).trans (by simp), 1, fun a => by
  cases a with
  | i n => exact Nat.zero_le 1
  | s x => exact Nat.zero_le 1
  | t xs => exact (eqTL (eqI (K := K))).le xs
  | l xs => exact (eqL (eqI (K := K))).le xs⟩
theorem loc_TL {α : Type} {e : Enc K α} (h : LocE e) : LocE (eTL e) := fun F F' v a s ⟨p, vs, h1, h2, h3, h4⟩ => ⟨p, vs, h1, s _ _ h2, h3, Paired.imp (fun v a r => h F F' v a s r) h4⟩
theorem loc_It : LocE (eIt (K := K) false) := fun F F' v a s r => by
  cases a with
  | i n => exact r
  | s x => exact r
  | t xs => exact loc_TL (loc_pu puI) F F' v xs s r
  | l xs => exact nomatch r.1
def asI : Dt → Res Int
  | .i n => .ok n
  | _ => .bad
def asS : Dt → Res Str
  | .s x => .ok x
  | _ => .bad
def asT : Dt → Res (List Int)
  | .t xs => .ok xs
  | _ => .bad
def asL : Dt → Res (List Int)
  | .l xs => .ok xs
  | _ => .bad
end
section
variable {X : Cx} {Z : Fz} {sp : Spec X.K} {a b e : Expr} {es : List Expr} {pos fp xp p2 : Pos} {α : Type} {lb : Bool}
theorem ej_itI {m : Res Int} (h : EJ X Z sp e m eI) : EJ X Z sp e (m.bi fun x => .ok (Dt.i x)) (eIt lb) := fun F ad σ H Q S hm => h F ad σ H Q S (hm.bi.imp fun x q F' H' v n r => q F' H' v n r)
theorem ej_itI_p {x : Int} (h : EJ X Z sp e (.ok x) eI) : EJ X Z sp e (.ok (Dt.i x)) (eIt lb) := ej_itI h
theorem ej_itS {m : Res Str} (h : EJ X Z sp e m eS) : EJ X Z sp e (m.bi fun x => .ok (Dt.s x)) (eIt lb) := fun F ad σ H Q S hm => h F ad σ H Q S (hm.bi.imp fun x q F' H' v n r => q F' H' v n r)
theorem ej_itS_p {x : Str} (h : EJ X Z sp e (.ok x) eS) : EJ X Z sp e (.ok (Dt.s x)) (eIt lb) := ej_itS h
theorem ej_itT {m : Res (List Int)} (h : EJ X Z sp e m (eTL eI)) : EJ X Z sp e (m.bi fun x => .ok (Dt.t x)) (eIt lb) := fun F ad σ H Q S hm => h F ad σ H Q S (hm.bi.imp fun x q F' H' v n r => q F' H' v n r)
theorem ej_itT_p {x : List Int} (h : EJ X Z sp e (.ok x) (eTL eI)) : EJ X Z sp e (.ok (Dt.t x)) (eIt lb) := ej_itT h
theorem ej_itL {m : Res (List Int)} (h : EJ X Z sp e m (eL eI)) : EJ X Z sp e (m.bi fun x => .ok (Dt.l x)) (eIt true) := fun F ad σ H Q S hm => h F ad σ H Q S (hm.bi.imp fun x q F' H' v n r => q F' H' v n ⟨rfl, r⟩)
theorem ej_itL_p {x : List Int} (h : EJ X Z sp e (.ok x) (eL eI)) : EJ X Z sp e (.ok (Dt.l x)) (eIt true) := ej_itL h
theorem ej_asI {m : Res Dt} (h : EJ X Z sp e m (eIt lb)) : EJ X Z sp e (m.bi asI) eI := fun F ad σ H Q S hm => h F ad σ H Q S (hm.bi.imp fun x q F' H' v n r => by
  cases x with
  | i x => exact q F' H' v n r
  | _ => exact q.elim)
theorem ej_asI_p {x : Dt} (h : EJ X Z sp e (.ok x) (eIt lb)) : EJ X Z sp e (asI x) eI := ej_asI h
theorem ej_asS {m : Res Dt} (h : EJ X Z sp e m (eIt lb)) : EJ X Z sp e (m.bi asS) eS := fun F ad σ H Q S hm => h F ad σ H Q S (hm.bi.imp fun x q F' H' v n r => by
  cases x with
  | s x => exact q F' H' v n r
  | _ => exact q.elim)
theorem ej_asS_p {x : Dt} (h : EJ X Z sp e (.ok x) (eIt lb)) : EJ X Z sp e (asS x) eS := ej_asS h
theorem ej_asT {m : Res Dt} (h : EJ X Z sp e m (eIt lb)) : EJ X Z sp e (m.bi asT) (eTL eI) := fun F ad σ H Q S hm => h F ad σ H Q S (hm.bi.imp fun x q F' H' v n r => by
  cases x with
  | t x => exact q F' H' v n r
  | _ => exact q.elim)
theorem ej_asT_p {x : Dt} (h : EJ X Z sp e (.ok x) (eIt lb)) : EJ X Z sp e (asT x) (eTL eI) := ej_asT h
theorem ej_asL {m : Res Dt} (h : EJ X Z sp e m (eIt lb)) : EJ X Z sp e (m.bi asL) (eL eI) := fun F ad σ H Q S hm => h F ad σ H Q S (hm.bi.imp fun x q F' H' v n r => by
  cases x with
  | l x => exact q F' H' v n r.2
  | _ => exact q.elim)
theorem ej_asL_p {x : Dt} (h : EJ X Z sp e (.ok x) (eIt lb)) : EJ X Z sp e (asL x) (eL eI) := ej_asL h
/-- no lists in it -/
theorem ej_itW {m : Res Dt} (h : EJ X Z sp e m (eIt false)) : EJ X Z sp e m (eIt lb) := fun F ad σ H Q S hm => h F ad σ H Q S (hm.imp fun x q F' H' v n r => q F' H' v n (by
  cases x with
  | l x => exact nomatch r.1
  | _ => exact r))
/-- a tuple of such -/
theorem ej_tupL {en : Enc X.K α} {kk : Nat} {m : Res (List α)} (h : IJ X Z sp es m en) (hl : es.length ≤ 1000 := by decide) : EJ X Z sp (.Tuple es kk pos) m (eTL en) := fun F ad σ H Q S hq => by
  refine ofE (pe_tup pa_w) ?_
  refine h F ad σ H _ S (hq.imp fun xs q F1 H1 vs n1 r1 e => ?_)
  refine ⟨Nat.le_of_lt (small1000 (by omega)), fun l hl => ?_⟩
  obtain ⟨g1, g2⟩ := n1.free hl
  exact q (L2.upd F1 l (.tup vs)) _ (.ref l) ((n1.new hl).fix g1 g2 upd_same) ⟨l, vs, rfl, upd_same, Nat.le_of_lt (small1000 (by omega)), r1.mono (same_upd g2)⟩
/-- tuple(a tuple) -/
theorem ej_tuT {en : Enc X.K α} {m : Res (List α)} (hm : X.mg "tuple" = none) (h : EJ X Z sp a m (eTL en)) (hg : Gl X "tuple" := by rfl) (hn : nst a = true := by rfl) : EJ X Z sp (.Call (.Name "tuple" fp) [a] [] pos) m (eTL en) := fun F ad σ H Q S hq => by
  refine ofE (callT1 call_tuple_of hg hm PyProof.Rows.boot_tuple hn) ?_
  refine h F ad σ H _ S (hq.imp fun xs q F1 H1 v n1 r1 => ?_)
  obtain ⟨p, vs, rfl, h1, hz1, r1⟩ := r1
  exact ⟨p, vs, rfl, .inr ⟨SqT.of (n1.fh _ _ h1), q F1 H1 _ n1 ⟨p, vs, rfl, h1, hz1, r1⟩⟩⟩
/-- isinstance of such an item -/
def kIt (kI kS kT kL : Bool) : Dt → Bool
  | .i _ => kI
  | .s _ => kS
  | .t _ => kT
  | .l _ => kL
theorem ej_isIt {m : Res Dt} {n : String} {x : Str} {kI kS kT kL : Bool} (hm : X.mg "isinstance" = none) (hm2 : X.mg x = none) (hv : bootBuiltins x = some (.type n)) (h1 : kitB "int" n = some kI) (h2 : kitB "str" n = some kS) (h3 : kitB "tuple" n = some kT) (h4 : kitB "list" n = some kL) (ha : EJ X Z sp a m (eIt lb)) (hg : Gl X "isinstance" := by rfl) (hg2 : Gl X x := by rfl) (hn : nst a = true := by rfl)
    (hx : x ≠ "__name__" := by decide) (hdb : (x == ("__debug__" : Str)) = false := by decide) : EJ X Z sp (.Call (.Name "isinstance" fp) [a, .Name x xp] [] pos) (m.bi fun y => .ok (kIt kI kS kT kL y)) eB := fun F ad σ H Q S hq => by
  refine ofE (callB2 call_isi hg hm PyProof.Rows.boot_isinstance hn rfl) ?_
  refine ha F ad σ H _ S (hq.bi.imp fun y q F1 H1 v n1 r1 => ?_)
  refine ofE (pe_bltn (v := .ty n) hg2 hm2 hv rfl hx hdb) ?_
  cases y with
  | i y => exact ⟨v, .ty n, .type "int", .type n, kI, rfl, .ty n, tyI F1 H1 v y n1.fh r1, kit_ty h1, q F1 H1 _ n1 rfl⟩
  | s y => exact ⟨v, .ty n, .type "str", .type n, kS, rfl, .ty n, tyS F1 H1 v y n1.fh r1, kit_ty h2, q F1 H1 _ n1 rfl⟩
  | t y => exact ⟨v, .ty n, .type "tuple", .type n, kT, rfl, .ty n, tyTL F1 H1 v y n1.fh r1, kit_ty h3, q F1 H1 _ n1 rfl⟩
  | l y => exact ⟨v, .ty n, .type "list", .type n, kL, rfl, .ty n, tyL F1 H1 v y n1.fh r1.2, kit_ty h4, q F1 H1 _ n1 rfl⟩
theorem ej_isIt_p {y : Dt} {n : String} {x : Str} {kI kS kT kL : Bool} (hm : X.mg "isinstance" = none) (hm2 : X.mg x = none) (hv : bootBuiltins x = some (.type n)) (h1 : kitB "int" n = some kI) (h2 : kitB "str" n = some kS) (h3 : kitB "tuple" n = some kT) (h4 : kitB "list" n = some kL) (ha : EJ X Z sp a (.ok y) (eIt lb)) (hg : Gl X "isinstance" := by rfl) (hg2 : Gl X x := by rfl) (hn : nst a = true := by rfl)
    (hx : x ≠ "__name__" := by decide) (hdb : (x == ("__debug__" : Str)) = false := by decide) : EJ X Z sp (.Call (.Name "isinstance" fp) [a, .Name x xp] [] pos) (.ok (kIt kI kS kT kL y)) eB := ej_isIt hm hm2 hv h1 h2 h3 h4 ha hg hg2 hn hx hdb
end
end Wk

set_option Elab.async false
set_option linter.all false
set_option maxRecDepth 100000
set_option maxHeartbeats 4000000
namespace PySem
open Sem (wp)
open AutoSeq1 (wpAny_loadPart')
/-! ### enumerate(a tuple) -/
theorem wk_meets_enumT (l : Addr) (items : Array Value) (n : Nat) (dct : Option Addr) (sl : Array (Option Value)) :
    Meets (Builtin.«enumerate.__new__» ⟨[.type "enumerate", .ref l], []⟩) (fun _ R s => s.heap.get? l = some { cls := .type "tuple", dict := dct, data := .seq items n, slots := sl } ∧
      R (.ok (.ret (.ref (s.heap.push { cls := .type "tuple_iterator", data := .fields #[.ref l, .int 0 0] }).objs.size)))
        { s with heap := (s.heap.push { cls := .type "tuple_iterator", data := .fields #[.ref l, .int 0 0] }).push { cls := .type "enumerate", data := .fields #[.none, .bool false, .ref s.heap.objs.size, rawInt 0, .none, .none] } }) :=
  .of_wp fun prog w A R s h => by
    obtain ⟨hp, g, d, tk, os⟩ := s; obtain ⟨hl, h⟩ := h
    have hsub := sub_enumerate
    have hL : Heap.IsTuple (Shared.heap ⟨hp, g, d, tk, os⟩) l items := ⟨_, hl, rfl, n, rfl⟩
    wp_walk using wpAny_loadPart' hl
    refine wpAny_stack_any fun st => wpAny_pure ?_
    split
    · rename_i c _ _ _ _ _
      cases (c == Value.type "enumerate")
      · wp_walk using wpAny_loadPart' hl, wpAny_pyIter_tuple hL
        exact ⟨_, rfl, h⟩
      · wp_walk using wpAny_loadPart' hl, wpAny_pyIter_tuple hL
        exact ⟨_, rfl, h⟩
    · wp_walk using wpAny_loadPart' hl, wpAny_pyIter_tuple hL
      exact ⟨_, rfl, h⟩
section
variable {prog : Program} {w : World} {A : Around} {E : Value → Shared → Prop} {s : Shared}
theorem wk_call_enumT {l : Addr} {items : Array Value} {Q : Value → Shared → Prop} (hL : s.heap.IsTuple l items)
    (h : ∀ h', IsEnum h' (s.heap.objs.size + 1) s.heap.objs.size 0 .none → h'.IsTupleIter s.heap.objs.size l 0 → h'.objs.size = s.heap.objs.size + 2 →
      (∀ b o, s.heap.get? b = some o → h'.get? b = some o) → Q (.ref (s.heap.objs.size + 1)) { s with heap := h' }) :
    wpAny (model prog w) A (call (.type "enumerate") [.ref l]) Q E s := by
  obtain ⟨⟨c, dct, dt, sl⟩, hl, hc, n, hd⟩ := hL
  replace hc : c = .type "tuple" := hc
  replace hd : dt = .seq items n := hd
  subst hc hd
  refine callType_new F.called_enumerate (by decide) (F.typeCall_enumerate_1 _) (F.newCall_enumerate_1 _) (fun obj => F.args_object_init_2 obj _) F.entry_enumerate_new
    (wk_meets_enumT l items n dct sl) ⟨hl, ?_⟩
  have hz : (s.heap.push { cls := .type "tuple_iterator", data := .fields #[.ref l, .int 0 0] }).objs.size = s.heap.objs.size + 1 := Heap.size_push ..
  show _ ∧ _
  rw [hz]
  have he : IsEnum ((s.heap.push { cls := .type "tuple_iterator", data := .fields #[.ref l, .int 0 0] }).push
      { cls := .type "enumerate", data := .fields #[.none, .bool false, .ref s.heap.objs.size, rawInt 0, .none, .none] }) (s.heap.objs.size + 1) s.heap.objs.size 0 .none := by
    have := Heap.get?_push_size (s.heap.push { cls := .type "tuple_iterator", data := .fields #[.ref l, .int 0 0] })
      (o := { cls := .type "enumerate", data := .fields #[.none, .bool false, .ref s.heap.objs.size, rawInt 0, .none, .none] }) rfl
    rw [hz] at this; exact this
  refine ⟨⟨_, he, rfl⟩, h _ he ⟨_, Heap.get?_push_of_some _ (Heap.get?_push_size _ rfl), rfl, rfl⟩ (by rw [Heap.size_push, hz]) fun b o x => Heap.get?_push_of_some _ (Heap.get?_push_of_some _ x)⟩
end
end PySem
namespace L2
open PySem PySem.Spec PyProof.Rows
/-- the tuple at a, each item in a new pair -/
def IteT (K : PySem.W.Frag) (a : Addr) : It :=
  ⟨fun i H => ∃ (xs : List V) (x : V), SqT K H a xs ∧ xs[i]? = some x, fun i H v H' => ∃ T x, v = .ref T ∧ H T = none ∧ H' = upd H T (.tup [.int (i : Nat), x]) ∧ ∀ xs, SqT K H a xs → xs[i]? = some x, fun i H => ∃ xs : List V, SqT K H a xs ∧ xs.length ≤ i⟩
theorem turn_enumT {P : Program} {w : World} {K : PySem.W.Frag} {elts : List Expr} {kk : Nat} {tpos : Pos} (a e it : Addr) :
    Turn P w K (.Tuple elts kk tpos) (IteT K a) [e, it] e (fun i h => (∃ old, IsEnum h e it ((i : Nat) : Int) old) ∧ h.IsTupleIter it a i ∧ e ≠ it ∧ a ≠ it) where
  mem := by simp
  obj := fun i h st b hb => by
    obtain ⟨⟨old, he⟩, ⟨o, ho, hc, hd⟩, _⟩ := st
    have e' : b = e ∨ b = it := by simpa using hb
    rcases e' with z | z
    · rw [z]; exact ⟨_, he, fun v q => nomatch q⟩
    · rw [z]; exact ⟨o, ho, fun v q => by rw [hd] at q; cases q⟩
  keep := fun i h h' st k => let ⟨⟨old, he⟩, hi, hne⟩ := st; ⟨⟨old, k e (by simp) _ he⟩, hi.at fun o q => k it (by simp) o q, hne⟩
  item := by
    intro X hP hw hK hc i pins s σ H E I hf st hg
    subst hP hw hK
    obtain ⟨⟨old, he⟩, hit, hne, hai⟩ := st
    obtain ⟨xs, x, hq, hx⟩ := hg
    obtain ⟨its, rv, p, hz⟩ := I.tuple hq
    obtain ⟨u, hu, ru⟩ := rv.get hx
    have hel : e < s.heap.objs.size := Heap.lt_size he
    have hil : it < s.heap.objs.size := by obtain ⟨_, q, _⟩ := hit; exact Heap.lt_size q
    have hT0 : s.heap.IsTuple a its.toArray := p
    have hea : e ≠ a := fun z => by
      subst z
      obtain ⟨o, ho, hcc, _⟩ := hT0
      have he2 := he
      unfold IsEnum at he2
      rw [ho] at he2
      have e3 := Option.some.inj he2
      rw [e3] at hcc
      have e4 : (Value.type "enumerate") = Value.type "tuple" := hcc
      injection e4 with e5
      exact absurd e5 (by decide)
    have hl := rv.length
    have hlt : i < its.toArray.size := by
      have := (List.getElem?_eq_some_iff.mp hx).1
      simp
      omega
    refine wpAny_pyNext_enum_itemD (fp := [it, a]) (Draws.tuple (A := X.A.in1) (prog := X.prog) (w := X.w) (I.ok.hd hc) it a hai its.toArray) he ⟨hit, hT0⟩ hlt hne (by simp [hne, hea]) fun u' h' tk hpx ho hst' hT hsz hk => ?_
    have eu : u' = u := by
      have h1 : its.toArray[i]? = some u := by simpa using hu
      exact Option.some.inj (hpx.symm.trans h1)
    subst eu
    obtain ⟨hit', _⟩ := hst'
    refine ⟨_, rfl, wpAny_letOwnedTupleGo_enum (s := { s with heap := h', toks := tk + 1 }) ho fun h'' he' sb => ?_⟩
    have hT2 : h''.get? s.heap.objs.size = some { cls := .type "tuple", data := .seq #[.int i tk, u'] } := (sb.2 _ (Nat.ne_of_gt hel)).trans hT
    have new : ObjOk X.prog X.w (upd H s.heap.objs.size (.tup [.int (i : Nat), x])) h'' s.heap.objs.size (.tup [.int (i : Nat), x]) :=
      ⟨by show 2 ≤ sizeLine; decide, [.int i tk, u'], .cons ⟨_, rfl⟩ (.cons ru .nil), ⟨_, hT2, rfl, _, rfl⟩⟩
    have I1 : Inv X pins σ (upd H s.heap.objs.size (.tup [.int (i : Nat), x])) { s with heap := h'', toks := tk + 1 } :=
      I.turnedNew (ch := [e, it]) (fun b ob hb q => (sb.2 b (fun z => hb (by simp [z]))).trans (hk b ob (fun z => hb (by simp [z])) (fun z => hb (by simp [z])) q)) hf (Nat.le_refl _) new
    refine ⟨.ref s.heap.objs.size, _, I1, rfl, ⟨_, x, rfl, I.hok.fresh (Nat.le_refl _), rfl, fun ys hy => by rw [I.tuple_inj hy hq]; exact hx⟩, ⟨⟨u', ?_⟩, hit'.at fun o q => (sb.2 it (Ne.symm hne)).trans q, hne, hai⟩, fun b hb => ?_⟩
    · have e1 : ((i + 1 : Nat) : Int) = (i : Int) + 1 := by omega
      rw [e1]; exact he'
    · have hb' : b < s.heap.objs.size := by
        have e' : b = e ∨ b = it := by simpa using hb
        rcases e' with z | z
        · rw [z]; exact hel
        · rw [z]; exact hil
      rw [upd_ne (Nat.ne_of_lt hb')]
      exact (hf b hb).1
  done := by
    intro X hP hw hK hc i pins s σ H E I hf st hg
    subst hP hw hK
    obtain ⟨⟨old, he⟩, hit, hne, hai⟩ := st
    obtain ⟨xs, hq, hx⟩ := hg
    obtain ⟨its, rv, p, hz⟩ := I.tuple hq
    obtain ⟨f0, f1, f2, f3, f4, f5⟩ := hf it (by simp)
    have hl := rv.length
    have hT0 : s.heap.IsTuple a its.toArray := p
    have hh := I.ok.hd hc
    have hT : s.TypeIs (.ref e) "enumerate" := ⟨_, he, rfl⟩
    unfold pyNext
    refine wpAny_bind (wpAny_attempt (wpAny_callSpecial?_slot (name := Str.ofString "__next__") hT PySem.F.slot_enumerate_next
      (wpAny_call_entry PySem.F.slot_enumerate_next hT PySem.F.entry_enumerate_next ?_ (PySem.F.args_enumerate_next_1 _))))
    show wpAny _ _ (field (.ref e) 2 >>= _) _ _ _
    refine wpAny_bind (wpAny_field he rfl (x := .ref it) rfl ?_)
    refine wpAny_bind (wpAny_nextOf_tuple_end hh hit hT0 (by simp; omega) fun h' x he' hx' => ?_)
    obtain ⟨o, ho, hc2⟩ := hx'
    refine wpAny_bind (wpAny_isInstance (T := "StopIteration") (b := true) ⟨o, ho, hc2⟩ isSubtype_stop ?_)
    exact wpAny_pure ⟨rfl, I.turned (t' := s.toks) (fun b o hb q => he' b o hb q) f0 f1 f3 f4 f5⟩
  self := fun A i s Q E st h => let ⟨⟨_, he⟩, _⟩ := st; wpAny_pyIter_enum he h
def iEnumT (K : PySem.W.Frag) (ta : TA) : TI := fun σ H R => ta σ H fun vs H1 => ∃ a xs, vs = [.ref a] ∧ SqT K H1 a xs ∧ R (IteT K a) H1
theorem pi_enumT {X : Cx} {e : Expr} {ta : TA} {p pos tpos : Pos} {elts : List Expr} {kk : Nat} (hg : Gl X "enumerate") (hm : X.mg "enumerate" = none) (ha : PA X [e] ta) (hs : starEach [e] X.env = [(false, eval e X.env)] := by rfl) :
    PI X (.Tuple elts kk tpos) (.Call (.Name "enumerate" p) [e] [] pos) (iEnumT X.K ta) := by
  refine ⟨fun pins s σ H R I h => ?_⟩
  refine Call_ (ld_blt I hg hm boot_enumerate (PyProof.Rows.callWith_type1 (thn (ha.run pos pins s σ H _ I h) fun us s1 ⟨vs, H1, I1, r1, q1⟩ => ?_) hs rfl))
  obtain ⟨a, xs, ex, hq, q⟩ := q1
  subst ex
  cases r1 with
  | cons r rr =>
    cases rr
    cases r
    obtain ⟨its, rv, p', hz⟩ := I1.tuple hq
    have hT0 : s1.heap.IsTuple a its.toArray := p'
    have hal : a < s1.heap.objs.size := by obtain ⟨_, e, _⟩ := hT0; exact Heap.lt_size e
    refine wk_call_enumT hT0 fun h' he hit hsz hk => wpAny_pyIter_enum he ?_
    have I2 : Inv X pins σ H1 { s1 with heap := h' } := I1.kept (t' := s1.toks) hk
    refine ⟨s1.heap.objs.size + 1, [s1.heap.objs.size + 1, s1.heap.objs.size], _, _, H1, rfl, I2, turn_enumT a (s1.heap.objs.size + 1) s1.heap.objs.size, ⟨⟨.none, he⟩, hit, Nat.succ_ne_self _, Nat.ne_of_lt hal⟩, fun b hb => ?_, q⟩
    have e' : b = s1.heap.objs.size + 1 ∨ b = s1.heap.objs.size := by simpa using hb
    have hle : s1.heap.objs.size ≤ b := by
      rcases e' with z | z
      · rw [z]; exact Nat.le_add_right _ _
      · rw [z]; exact Nat.le_refl _
    exact I1.fpOk hle (I1.hok.fresh hle)
end L2
namespace Wk
open PySem PySem.Spec PyProof.Rows L2
section
variable {X : Cx} {Z : Fz} {sp : Spec X.K} {a : Expr} {elts : List Expr} {pos fp tpos : Pos} {α : Type} {kk : Nat}
theorem sj_enumT {ea : Enc X.K α} {ma : Res (List α)} (hm : X.mg "enumerate" = none) (ha : EJ X Z sp a ma (eTL ea)) (hg : Gl X "enumerate" := by rfl) (hn : nst a = true := by rfl) :
    SJ X Z sp (.Tuple elts kk tpos) (.Call (.Name "enumerate" fp) [a] [] pos) (ma.bi fun xs => .ok (enumL xs)) (eT (vsC eI (vs1 ea))) := fun F ad σ H R S hq => by
  refine ofI (pi_enumT hg hm (pa_cons pe_w pa_nil (star_cons hn)) (star_cons hn)) ?_
  refine ha F ad σ H _ S (hq.bi.imp fun xs q F1 H1 v n1 r1 => ?_)
  obtain ⟨p, vs, rfl, h1, hz, r1⟩ := r1
  refine ⟨p, vs, rfl, SqT.of (n1.fh _ _ h1), q F1 H1 _ n1 ?_ fun i F' H' s f g => ?_⟩
  · rw [enumL_length, ← r1.length]
    exact hz
  · have k1 : SqT X.K H' p vs := SqT.of (f _ _ (s _ _ h1))
    refine ⟨fun y hy => ?_, fun hl => ⟨vs, k1, ?_⟩⟩
    · obtain ⟨y1, y2⟩ := enumL_get hy
      obtain ⟨v1, g1, g2⟩ := r1.get y2
      refine ⟨⟨vs, v1, k1, g1⟩, fun x H'' yl => ?_⟩
      obtain ⟨T, x1, rfl, hT, rfl, e1⟩ := yl
      have q1 : v1 = x1 := Option.some.inj (g1.symm.trans (e1 _ k1))
      subst q1
      have nn : Nx F' H' F' H' := ⟨Same.refl _, Same.refl _, f, fun _ h => .inl h⟩
      have hF : F' T = none := f.free hT
      refine ⟨upd F' T (.tup [.int (i : Nat), v1]), (nn.new hT).fix hT hF upd_same, T, [.int (i : Nat), v1], rfl, upd_same, .int (i : Nat), [v1], rfl, by rw [y1]; rfl, v1, rfl, ea.mono (s.trans (same_upd hF)) g2⟩
    · rw [enumL_length] at hl
      rw [r1.length]
      exact hl
theorem sj_enumT_p {ea : Enc X.K α} {xs : List α} (hm : X.mg "enumerate" = none) (ha : EJ X Z sp a (.ok xs) (eTL ea)) (hg : Gl X "enumerate" := by rfl) (hn : nst a = true := by rfl) :
    SJ X Z sp (.Tuple elts kk tpos) (.Call (.Name "enumerate" fp) [a] [] pos) (.ok (enumL xs)) (eT (vsC eI (vs1 ea))) := sj_enumT hm ha hg hn
end
end Wk

set_option Elab.async false
set_option linter.all false
set_option maxRecDepth 100000
set_option maxHeartbeats 4000000
namespace Wk
open PySem PySem.Spec PyProof.Rows L2
section
variable {X : Cx} {Z : Fz} {sp : Spec X.K} {a b c e : Expr} {pos p p2 fp : Pos} {α β δ : Type} {spN : δ → Spec X.K}
/-- y.m(..) != b, by data -/
theorem scj_neD [DecidableEq β] {en : Enc X.K β} {m : Res ((β ⊕ Str) × δ)} (hu : X.A.units + 64 < cLine) (q : EqE en) {mb : δ → Res β} (ha : SVJ X Z sp a m en spN) (hb : ∀ d, DJ X Z (spN d) b (mb d) q) (hd : Nat.ble q.dep 60 = true := by rfl) : SCJ X Z sp .NotEq a b (m.bi (sof fun x d => (mb d).bi fun y => .ok (!decide (x = y)))) spN := ⟨_, op_neP hu (Nat.le_of_ble_eq_true hd), fun F ad σ H Q W S tk hm => by
  refine ha F ad σ H _ W S tk (SK.use hm fun x d F1 ad1 H1 v S1 r1 k => ?_)
  refine hb d F1 ad1 σ H1 _ S1 (k.bi.imp fun y k F2 H2 u n2 r2 => ?_)
  refine ⟨_, _, q.dp n2.fh (en.mono n2.ff r1), r2 _ (Same.refl _), q.pl _, q.pl _, q.le _, ?_⟩
  rw [q.eqv]
  exact k F2 ad1 H2 _ (S1.nx n2) rfl⟩
theorem scj_eqD [DecidableEq β] {en : Enc X.K β} {m : Res ((β ⊕ Str) × δ)} (hu : X.A.units + 64 < cLine) (q : EqE en) {mb : δ → Res β} (ha : SVJ X Z sp a m en spN) (hb : ∀ d, DJ X Z (spN d) b (mb d) q) (hd : Nat.ble q.dep 60 = true := by rfl) : SCJ X Z sp .Eq a b (m.bi (sof fun x d => (mb d).bi fun y => .ok (decide (x = y)))) spN := ⟨_, op_eqP hu (Nat.le_of_ble_eq_true hd), fun F ad σ H Q W S tk hm => by
  refine ha F ad σ H _ W S tk (SK.use hm fun x d F1 ad1 H1 v S1 r1 k => ?_)
  refine hb d F1 ad1 σ H1 _ S1 (k.bi.imp fun y k F2 H2 u n2 r2 => ?_)
  refine ⟨_, _, q.dp n2.fh (en.mono n2.ff r1), r2 _ (Same.refl _), q.pl _, q.pl _, q.le _, ?_⟩
  rw [q.eqv]
  exact k F2 ad1 H2 _ (S1.nx n2) rfl⟩
end
end Wk

set_option Elab.async false
set_option linter.all false
set_option maxRecDepth 100000
set_option maxHeartbeats 4000000
namespace Wk
open PySem PySem.Spec PyProof.Rows L2
section
variable {X : Cx} {Z : Fz} {sp : Spec X.K} {a b c e pe : Expr} {pos p p2 fp apos cpos : Pos} {α β δ ρ : Type} {F F' H H' : Hp} {Qr : ρ → Prop} {D : Ends} {rest : List Stmt} {q : Addr} {lb : Bool}
/-! ### a new list that is changed at once and left -/
theorem Nx.lost {o : HO} (n : Nx F H F' H') (h1 : H q = none) (h2 : F' q = none) : Nx F H F' (upd H' q o) := by
  have off : ∀ b, b ≠ q → upd H' q o b = H' b := fun b hb => if_neg hb
  refine ⟨n.ff, fun b x hb => ?_, fun b x hb => ?_, n.nw⟩
  · by_cases e : b = q
    · rw [e, h1] at hb
      cases hb
    · rw [off b e]
      exact n.hh _ _ hb
  · by_cases e : b = q
    · rw [e, h2] at hb
      cases hb
    · rw [off b e]
      exact n.fh _ _ hb
theorem bj_tmpC {en : Enc X.K α} {ml : Res (List α)} {m : Res ρ} (h : FJ X Z sp pe ml en) (hr : BJ X Z Qr D sp rest m)
    (hline : (apos.endLine == cpos.line) = true := by rfl)
    (hbase : attributeBase pe "clear" X.env (eval pe X.env) = eval pe X.env := by rfl)
    (hw : swapsWith (.Call (.Attribute pe "clear" apos) [] [] cpos) none pos.line X.env = pure false := by rfl) :
    BJ X Z Qr D sp (.Expr (.Call (.Attribute pe "clear" apos) [] [] cpos) pos :: rest) (ml.bi fun _ => m) := fun F ad σ H S hm => by
  refine seq (ofS (ps_expr (pe_bm0 PySem.F.plainAttrs_list PySem.F.slot_list_clear PySem.F.type_list_clear mt_clear pe_w hbase hline) hw) ?_)
  refine h F ad σ H _ S (hm.bi.imp fun xs g F1 H1 q us n h1 h2 h3 hz r => ?_)
  refine ⟨tyV_own h3, q, us, rfl, rfl, h3, ?_⟩
  exact hr F1 ad σ _ (S.nx (n.lost h1 h2)) g
theorem bj_tmpA {en : Enc X.K α} {ml : Res (List α)} {me : Res α} {m : Res ρ} (h : FJ X Z sp pe ml en) (he : EJ X Z sp e me en) (hr : BJ X Z Qr D sp rest m) (hn : nst e = true := by rfl)
    (hline : (apos.endLine == cpos.line) = true := by rfl)
    (hbase : attributeBase pe "append" X.env (eval pe X.env) = eval pe X.env := by rfl)
    (hw : swapsWith (.Call (.Attribute pe "append" apos) [e] [] cpos) none pos.line X.env = pure false := by rfl) :
    BJ X Z Qr D sp (.Expr (.Call (.Attribute pe "append" apos) [e] [] cpos) pos :: rest) (ml.bi fun xs => me.bi fun y => (appM xs y).bi fun _ => m) := fun F ad σ H S hm => by
  refine seq (ofS (ps_expr (pe_bm PySem.F.plainAttrs_list PySem.F.slot_list_append PySem.F.type_list_append mt_append pe_w (pa_cons pe_w pa_nil (star_cons hn)) hbase (by rw [star_cons hn]; rfl) hline (star_cons hn) rfl) hw) ?_)
  refine h F ad σ H _ S (hm.bi.imp fun xs g F1 H1 q us n h1 h2 h3 hz r => ?_)
  refine ⟨tyV_own h3, ?_⟩
  refine he F1 ad σ H1 _ (S.nx n) (g.bi.imp fun y g F2 H2 u n2 r2 => ?_)
  obtain ⟨c, g⟩ := g.bi.gd
  have hl : us.length < sizeLine := by rw [r.length]; exact c
  refine ⟨q, us, u, rfl, rfl, n2.hh _ _ h3, hl, ?_⟩
  exact hr F2 ad σ _ (S.nx ((n.trans n2).lost h1 (n2.non h2 (by rw [h3]; exact fun z => nomatch z)))) g
/-! ### lists of two kinds -/
theorem Paired.mapR {β γ : Type} {R : α → β → Prop} {S : α → γ → Prop} {f : β → γ} (h : ∀ a b, R a b → S a (f b)) : ∀ {xs : List α} {ys : List β}, Paired R xs ys → Paired S xs (ys.map f)
  | _, _, .nil => .nil
  | _, _, .cons r t => .cons (h _ _ r) (Paired.mapR h t)
def it4 (z : Int × Int × Int × Int) : Dt := .t [z.1, z.2.1, z.2.2.1, z.2.2.2]
theorem rep4 {K : Frag} {v : V} {z : Int × Int × Int × Int} (h : (eT (vsC (eI (K := K)) (vsC eI (vsC eI (vs1 eI))))).rep F v z) : (eIt (K := K) lb).rep F v (it4 z) := by
  obtain ⟨p, vs, rfl, h1, v1, w1, rfl, r1, v2, w2, rfl, r2, v3, w3, rfl, r3, v4, rfl, r4⟩ := h
  exact ⟨p, _, rfl, h1, Nat.le_of_lt (small1000 (by show 4 ≤ 1000; omega)), .cons r1 (.cons r2 (.cons r3 (.cons r4 .nil)))⟩
theorem ej_co4 {m : Res (List (Int × Int × Int × Int))} (h : EJ X Z sp e m (eL (eT (vsC eI (vsC eI (vsC eI (vs1 eI))))))) : EJ X Z sp e (m.bi fun xs => .ok (xs.map it4)) (eL (eIt lb)) := fun F ad σ H Q S hm => h F ad σ H Q S (hm.bi.imp fun xs q F' H' v n r => q F' H' v n (by
  obtain ⟨p, vs, rfl, h1, hz, r⟩ := r
  exact ⟨p, vs, rfl, h1, hz, Paired.mapR (R := fun v a => (eT (vsC eI (vsC eI (vsC eI (vs1 eI))))).rep F' v a) (S := fun v a => (eIt lb).rep F' v a) (f := it4) (fun v a => rep4) r⟩))
theorem ej_co4_p {xs : List (Int × Int × Int × Int)} (h : EJ X Z sp e (.ok xs) (eL (eT (vsC eI (vsC eI (vsC eI (vs1 eI))))))) : EJ X Z sp e (.ok (xs.map it4)) (eL (eIt lb)) := ej_co4 h
theorem ej_coS {m : Res (List Str)} (h : EJ X Z sp e m (eL eS)) : EJ X Z sp e (m.bi fun xs => .ok (xs.map Dt.s)) (eL (eIt lb)) := fun F ad σ H Q S hm => h F ad σ H Q S (hm.bi.imp fun xs q F' H' v n r => q F' H' v n (by
  obtain ⟨p, vs, rfl, h1, hz, r⟩ := r
  exact ⟨p, vs, rfl, h1, hz, Paired.mapR (R := fun v a => eS.rep F' v a) (S := fun v a => (eIt lb).rep F' v a) (f := Dt.s) (fun v a r => r) r⟩))
theorem ej_coS_p {xs : List Str} (h : EJ X Z sp e (.ok xs) (eL eS)) : EJ X Z sp e (.ok (xs.map Dt.s)) (eL (eIt lb)) := ej_coS h
end
end Wk

set_option Elab.async false
set_option linter.all false
set_option maxRecDepth 100000
set_option maxHeartbeats 4000000
namespace Wk
open PySem PySem.Spec PyProof.Rows L2
section
variable {X : Cx} {Z : Fz} {sp : Spec X.K} {a b c e : Expr} {pos p p2 fp : Pos} {α β δ ρ : Type} {F F' H H' : Hp} {Qr : ρ → Prop} {D : Ends} {rest : List Stmt} {elt tg iter : Expr} {scope : Scope} {own : List (Str × Nat)}
/-! ### a list of new lists, by a comprehension -/
def LlR (K : Frag) (e : Enc K α) (F H : Hp) : List Addr → List (List α) → Prop := Paired (fun q xs => ∃ vs, H q = some (.lst vs) ∧ vs.length ≤ sizeLine ∧ Reps e F vs xs)
theorem LlR.go {K : Frag} {e : Enc K α} (f : Same F F') (h : Same H H') {l : List Addr} {xss : List (List α)} (r : LlR K e F H l xss) : LlR K e F' H' l xss := Paired.imp (fun q xs ⟨vs, k1, k2, k3⟩ => ⟨vs, h _ _ k1, k2, k3.mono f⟩) r
theorem LlR.go2 {K : Frag} {e : Enc K α} (f : Same F F') {l : List Addr} {xss : List (List α)} (r : LlR K e F H l xss) (h : ∀ q ∈ l, ∀ o, H q = some o → H' q = some o) : LlR K e F' H' l xss := by
  unfold LlR at *
  induction r with
  | nil => exact .nil
  | cons r t ih =>
    obtain ⟨vs, k1, k2, k3⟩ := r
    exact .cons ⟨vs, h _ (List.mem_cons_self ..) _ k1, k2, k3.mono f⟩ (ih fun q hq => h q (List.mem_cons_of_mem _ hq))
theorem LlR.snoc {K : Frag} {e : Enc K α} {l : List Addr} {xss : List (List α)} {q : Addr} {xs : List α} (r : LlR K e F H l xss) (h : ∃ vs, H q = some (.lst vs) ∧ vs.length ≤ sizeLine ∧ Reps e F vs xs) : LlR K e F H (l ++ [q]) (xss ++ [xs]) := by
  unfold LlR at *
  induction r with
  | nil => exact .cons h .nil
  | cons r t ih => exact .cons r ih
theorem lc_okLL {en : Enc X.K β} {en' : Enc X.K α} {m : Res (List β)} {is : List Nat} {bd : β → List (Sl X.K) → List (Sl X.K)} {me : β → Res (List α)} {tt : TT} (hs : SJ X Z sp tg iter m en)
    (hg : ∀ s H C cl fp, GJ (blkX X scope s H C cl fp) tg en is bd) (hi : ∀ i ∈ is, i ∈ own.map (·.2))
    (hc : ∀ y F ad σ H (Q : Bool → Hp → Prop), SOk Z.mute F ad (blkS sp own bd y) σ H → (∀ F' H', Nx F H F' H' → Q true H') → tt σ H Q)
    (he : ∀ y s H C cl fp, FJ (blkX X scope s H C cl fp) Z.mute (blkS sp own bd y) elt (me y) en')
    (F : Hp) (ad : List Addr) (σ : Sg) (H : Hp) (Q : VK) (S : SOk Z F ad sp σ H) (hm : mwp (m.bi fun ys => mapMx ys me) (fun xss => ∀ F' H' p l, Nx F H F' H' → (pkLL en').rep F' H' l p xss → (p :: l).Nodup → (∀ y ∈ p :: l, H y = none ∧ F' y = none ∧ H' y ≠ none) → Q (.ref p) H') Z.Er) :
    tLc (wI X tg iter) (gAll X scope tg) tt (eAll X scope elt) (own.map (·.2)) σ H Q := by
  refine hs F ad σ H _ S (hm.bi.imp fun ys q F1 H1 J n1 hz itr => fun D hD => ?_)
  obtain ⟨g1, g2⟩ := n1.free hD
  refine ⟨fun i m Hc => m = ys.length - i ∧ i ≤ ys.length ∧ ∃ F' l zs, F' D = none ∧ Hc D = some (.lst (l.map V.ref)) ∧ l.length ≤ i ∧ LlR X.K en' F' Hc l zs ∧ Nx F1 H1 F' Hc ∧ (D :: l).Nodup ∧ (∀ y ∈ l, H1 y = none ∧ F' y = none ∧ Hc y ≠ none) ∧
    mwp (mapMx (ys.drop i) me) (fun rest => ∀ F' H' p l, Nx F H F' H' → (pkLL en').rep F' H' l p (zs ++ rest) → (p :: l).Nodup → (∀ y ∈ p :: l, H y = none ∧ F' y = none ∧ H' y ≠ none) → Q (.ref p) H') Z.Er, ?_, ?_⟩
  · exact ⟨_, rfl, Nat.zero_le _, F1, [], [], g2, upd_same, Nat.le_refl _, .nil, (Nx.new ⟨Same.refl _, Same.refl _, n1.fh, fun _ h => .inl h⟩ hD), by simp, (fun y hy => nomatch hy), q⟩
  · rintro i m Hc ⟨rfl, hil, F', l, zs, hF, hH, hal, hr, nn, nd, hl, q⟩
    have gh := S.gh.trans (n1.hh.trans nn.hh)
    obtain ⟨t1, t2⟩ := itr i F' Hc nn.ff nn.fh gh
    by_cases hlt : i < ys.length
    · have hy : ys[i]? = some ys[i] := List.getElem?_eq_getElem hlt
      obtain ⟨go, yl⟩ := t1 _ hy
      rw [List.drop_eq_getElem_cons hlt] at q
      refine .inr ⟨go, fun Hd => ∃ F' l zs, F' D = none ∧ Hd D = some (.lst (l.map V.ref)) ∧ l.length ≤ i + 1 ∧ LlR X.K en' F' Hd l zs ∧ Nx F1 H1 F' Hd ∧ (D :: l).Nodup ∧ (∀ y ∈ l, H1 y = none ∧ F' y = none ∧ Hd y ≠ none) ∧
        mwp (mapMx (ys.drop (i + 1)) me) (fun rest => ∀ F' H' p l, Nx F H F' H' → (pkLL en').rep F' H' l p (zs ++ rest) → (p :: l).Nodup → (∀ y ∈ p :: l, H y = none ∧ F' y = none ∧ H' y ≠ none) → Q (.ref p) H') Z.Er, fun Hd h => ⟨ys.length - (i + 1), by omega, rfl, hlt, h⟩, fun x H'' hx => ?_⟩
      obtain ⟨F2, n2, rx⟩ := yl x H'' hx
      have nnn := nn.trans n2
      have hF2 := n2.non hF (by rw [hH]; exact fun z => nomatch z)
      have hH2 := n2.hh _ _ hH
      have S2 := ((S.nx (n1.trans nnn)).wipe (own.map (·.2))).er (Er := fun _ => False)
      intro s H0 C cl fp
      refine hg s H0 C cl fp _ F2 ad _ _ H'' x ys[i] _ S2 rx fun σ3 S3 k1 k2 => ⟨?_, ?_⟩
      · rw [wipe_eq (σ := L2.wipe σ (own.map (·.2))) k1 fun i hi' => k2 i fun z => hi' (hi i z)]
        refine List.ext_getElem? fun i => ?_
        rw [wipe_get, wipe_get, wipe_length]
        split <;> rfl
      · refine hc ys[i] F2 ad σ3 H'' _ S3 fun F3 H3 n3 => ?_
        have hF3 := n3.non hF2 (by rw [hH2]; exact fun z => nomatch z)
        have hH3 := n3.hh _ _ hH2
        intro s H0 C cl fp
        refine he ys[i] s H0 C cl fp F3 ad σ3 H3 _ (S3.nx n3) ((mwp.nx (mwp.bi q)).imp fun z q F4 H4 q4 us n4 b1 b2 b3 bz b4 => ?_)
        have hF4 := n4.non hF3 (by rw [hH3]; exact fun z => nomatch z)
        have hH4 := n4.hh _ _ hH3
        have nf := (nnn.trans n3).trans n4
        have n24 := (n2.trans n3).trans n4
        have hqD : q4 ≠ D := fun z => by rw [z, hH3] at b1; cases b1
        have hDn : H1 D = none := hD
        refine ⟨l.map V.ref, hH4, Nat.lt_of_le_of_lt (by rw [List.length_map]; exact hal) (Nat.lt_of_lt_of_le hlt hz), F4, l ++ [q4], zs ++ [z], hF4, by rw [upd_same, List.map_append]; rfl, by rw [List.length_append, List.length_singleton]; omega, ?_, ?_, ?_, ?_, ?_⟩
        · have up : ∀ y, y ≠ D → L2.upd H4 D (.lst (l.map V.ref ++ [.ref q4])) y = H4 y := fun y hy => upd_ne hy
          refine LlR.snoc (hr.go2 n24.ff fun q hq o ho => ?_) ⟨us, by rw [up _ hqD]; exact b3, bz, b4⟩
          rw [up q fun z => (List.nodup_cons.mp nd).1 (z ▸ hq)]
          exact n24.hh _ _ ho
        · refine ⟨nf.ff, fun b o h => ?_, fun b o h => ?_, nf.nw⟩
          · rw [upd_ne (ne_of_none h hD)]
            exact nf.hh b o h
          · rw [upd_ne (ne_of_none h hF4)]
            exact nf.fh b o h
        · rw [List.nodup_cons] at nd ⊢
          refine ⟨fun z => ?_, List.nodup_append.mpr ⟨nd.2, by simp, fun a ha b hb e => ?_⟩⟩
          · rcases List.mem_append.mp z with z | z
            · exact nd.1 z
            · rw [List.mem_singleton] at z
              exact hqD z.symm
          · rw [List.mem_singleton] at hb
            rw [e, hb] at ha
            exact (hl _ ha).2.2 ((n2.trans n3).hh.free b1)
        · intro y hy
          rcases List.mem_append.mp hy with hy | hy
          · obtain ⟨k1, k2, k3⟩ := hl y hy
            have hyD : y ≠ D := fun z => (List.nodup_cons.mp nd).1 (z ▸ hy)
            refine ⟨k1, n24.non k2 k3, ?_⟩
            rw [upd_ne hyD]
            exact fun z => k3 (n24.hh.free z)
          · rw [List.mem_singleton] at hy
            subst hy
            refine ⟨(nnn.trans n3).hh.free b1, b2, ?_⟩
            rw [upd_ne hqD, b3]
            exact fun z => nomatch z
        · refine (mwp.bi q).imp fun rest q F' H' p l n h1 h2 h3 => q F' H' p l n ?_ h2 h3
          rw [List.append_assoc] at h1
          exact h1
    · have e : i = ys.length := by omega
      subst e
      rw [List.drop_length] at q
      have q : ∀ F' H' p l, Nx F H F' H' → (pkLL en').rep F' H' l p (zs ++ []) → (p :: l).Nodup → (∀ y ∈ p :: l, H y = none ∧ F' y = none ∧ H' y ≠ none) → Q (.ref p) H' := q
      rw [List.append_nil] at q
      refine .inl ⟨t2 (Nat.le_refl _), q F' Hc D l (n1.trans nn) ⟨hH, Nat.le_trans hal hz, hr⟩ nd fun y hy => ?_⟩
      rcases List.mem_cons.mp hy with rfl | hy
      · exact ⟨g1, hF, by rw [hH]; exact fun z => nomatch z⟩
      · obtain ⟨k1, k2, k3⟩ := hl y hy
        exact ⟨n1.hh.free k1, k2, k3⟩
variable {m : Res ρ}
/-- y = [[] for tg in iter] -/
theorem bj_lcLL {en : Enc X.K β} {en' : Enc X.K α} {ms : Res (List β)} {is : List Nat} {bd : β → List (Sl X.K) → List (Sl X.K)} {me : β → Res (List α)} {kk : List (List α) → Res ρ} {i : Nat} {y : Str} {py spos : Pos} (am : Amb X Z k) (ok : BlkOk X.N X.env.scope scope own) (hs : SJ X Z sp tg iter ms en)
    (hg : ∀ s H C cl fp, GJ (blkX X scope s H C cl fp) tg en is bd) (he : ∀ y s H C cl fp, FJ (blkX X scope s H C cl fp) Z.mute (blkS sp own bd y) elt (me y) en') (hr : ∀ v, BJ X Z Qr D ⟨sp.sl.set i (.own sp.ob.length), sp.ob ++ [.pk none (pkLL en') v]⟩ rest (kk v)) (hi : ∀ i ∈ is, i ∈ own.map (·.2) := by decide) (hy : X.N[i]? = some y := by rfl) (hyl : X.env.scope.names.lookup y = some .local := by rfl)
    (hsw : swapsWith (.ListComp elt [⟨tg, iter, [], 0⟩] scope pos) (some (.Name y py)) spos.line X.env = pure true := by exact sw_true rfl rfl rfl (by decide +kernel)) (hf : ∀ x, foldedSetIterable iter X.env x = pure x := by intro _; rfl) :
    BJ X Z Qr D sp (.Assign [.Name y py] (.ListComp elt [⟨tg, iter, [], 0⟩] scope pos) spos :: rest) ((ms.bi fun ys => mapMx ys me).bi kk) := fun F ad σ H S hm => by
  refine seq (ofS (ps_setLc am.calm am.nd hy hyl hsw pi_w ok pgAll (fun _ _ _ _ _ => pts_nil) peAll hf) ?_)
  refine lc_okLL (me := me) hs hg hi (fun y F ad σ H Q S h => h F H S.refl) he F ad σ H (fun v H1 => gName i v σ H1 (wB X rest D)) S (hm.bi.imp fun v q F' H' p l n h1 h2 h3 => ?_)
  exact hr v F' (ad ++ [p]) _ H' ((S.pushPk n h1 h2 h3).set ⟨p, by rw [S.olen]; simp, rfl⟩) q
end
end Wk

set_option Elab.async false
set_option linter.all false
set_option maxRecDepth 100000
set_option maxHeartbeats 4000000
namespace Wk
open PySem PySem.Spec PyProof.Rows L2
section
variable {X : Cx} {Z : Fz} {sp : Spec X.K} {a b c e : Expr} {pos pos' p p2 fp : Pos} {α β δ ρ : Type} {F F' H H' : Hp} {Qr : ρ → Prop} {D : Ends} {rest body : List Stmt} {k i j : Nat} {x y : Str} {m : Res ((β ⊕ Str) × δ)} {ns ns' tx : List Str}
/-! ### try: .. except X: y = True or False -/
theorem bj_tryC {S : Type} {spN : β → δ → Spec X.K} {spE : δ → Spec X.K} {sps : S → Spec X.K} {fN : β → δ → S} {fE : δ → S} {kk : S → Res ρ} {ic jj : Nat} {bv : Bool} {np p1 p3 : Pos} {ks ks' : List Nat} (am : Amb X Z k) (xf : XF X.K X.mg ns tx)
    (hb : ∀ pn xe, Amb (X.tr pn xe) Z.mute k → TBP (X.tr pn xe) Z sp body m spN spE) (leN : ∀ r d, Le (spN r d) (sps (fN r d)) ks) (leE : ∀ d, Le ⟨(spE d).sl.set ic (.val eB bv), (spE d).ob⟩ (sps (fE d)) ks') (hr : ∀ s, BJ X Z Qr D (sps s) rest (kk s))
    (hin : ∀ c ∈ ns', c ∈ ns := by decide) (hsub : ns'.all (fun c => subX c x) = true := by decide) (hts : x ∈ tx := by decide)
    (hy : X.N[ic]? = some y := by rfl) (hyl : X.env.scope.names.lookup y = some .local := by rfl)
    (hs : X.stack = X.env :: X.outer := by rfl) (hf : X.env.frame = some X.env.locals := by rfl) (hg : Gl X x := by rfl) (hdb : (x == ("__debug__" : Str)) = false := by decide)
    (hsw : swapsWith (.Constant (.bool bv) jj p2) (some (.Name y p1)) p3.line X.env = pure false := by rfl) :
    BJ X Z Qr D sp (.Try body [.ExceptHandler (some (.Name x np)) none [.Assign [.Name y p1] (.Constant (.bool bv) jj p2) p3] pos'] [] [] pos :: rest) (((m.nx).bi (tryP ns' fN (fun _ d => fE d))).bi kk) := fun F ad σ H S0 hm => by
  rw [bi_bi] at hm
  refine seq (ofS (ps_try_only (X := X) hs hf ⟨hg, hdb, .inl (xf.glo x (List.mem_append_right _ hts))⟩ (takes0 (X := X)) (tb := fun W D σ H => ∀ pn xe, Takes (X.tr pn xe) W → PassesOwn (model X.prog X.w) X.A X.env xe → wB (X.tr pn xe) body D σ H) (ts := fun a cls d D σ H => D.nx (σ.set ic (some (.bl bv))) H)
    (fun W pn xe tk po => ⟨fun pins s σ H D I h => pb_w.run pins s σ H D I (h pn xe tk po)⟩)
    (fun a oe cls d pn hz hv' => ⟨fun pins s σ H D I h => ?_⟩)) ?_)
  · have ps := ps_set (X := X.suite a ((a, oe) :: pn)) (i := ic) am.nd hy (.inl hyl) (pe_bl (X := X.suite a ((a, oe) :: pn))) hsw (.inr hyl)
    exact (pss_one ps).run pins s σ H D I h
  · intro pn xe tk po
    refine hb pn xe ⟨am.hr, am.calm, am.nd, po, fun _ _ _ => False, takes0, fun _ h => h.elim⟩ F ad σ H { D with nx := wB X rest D } (wOnly X.K (.ref (He.ga X.K x)) (fun a cls d D σ H => D.nx (σ.set ic (some (.bl bv))) H) (fun _ _ _ _ => False) { D with nx := wB X rest D }) S0.er tk ?_
    refine (mwp.nxF hm.bi).imp2 (fun r q => ?_) fun _ z => z
    obtain ⟨r, d⟩ := r
    cases r with
    | inl b =>
      intro F' ad' σ' H' S'
      obtain ⟨ad2, S2⟩ := (leN b d).go Z F' ad' σ' H' S'.rer
      exact hr _ F' ad2 σ' H' S2 q
    | inr c =>
      intro C F' ad' H' S' hC
      have q : mwp ((if c ∈ ns' then (Res.ok (fE d) : Res S) else .bad).bi kk) Qr Z.Er := q
      by_cases hc' : c ∈ ns'
      · rw [if_pos hc'] at q
        have hc := hin c hc'
        have eC : C = He.ga X.K c := by
          have z := (xf.glo c (List.mem_append_left _ hc)).symm.trans hC
          injection z with z
          injection z with z
          exact z.symm
        subst eC
        refine ⟨true, ?_, fun _ a na => ?_, fun z => nomatch z⟩
        · rw [xf.exm c hc x hts, List.all_eq_true.mp hsub c hc']
        · obtain ⟨ad2, S3⟩ := (leE d).go Z F' ad' (σ.set ic (some (.bl bv))) H' (S'.rer.set ⟨.bl bv, rfl, rfl⟩)
          exact hr _ _ ad2 _ _ S3 q
      · rw [if_neg hc'] at q
        exact q.elim
theorem bj_tryCS {S : Type} {mb : Res β} {spN : β → Spec X.K} {spE : Spec X.K} {sps : S → Spec X.K} {fN : β → S} {fE : S} {kk : S → Res ρ} {ic jj : Nat} {bv : Bool} {np p1 p3 : Pos} {ks ks' : List Nat} (am : Amb X Z k) (xf : XF X.K X.mg ns tx)
    (hb : ∀ pn xe, Amb (X.tr pn xe) Z.mute k → TBJ (X.tr pn xe) Z sp body mb spN spE) (leN : ∀ r, Le (spN r) (sps (fN r)) ks) (leE : Le ⟨spE.sl.set ic (.val eB bv), spE.ob⟩ (sps fE) ks') (hr : ∀ s, BJ X Z Qr D (sps s) rest (kk s))
    (hin : ∀ c ∈ ns', c ∈ ns := by decide) (hsub : ns'.all (fun c => subX c x) = true := by decide) (hts : x ∈ tx := by decide)
    (hy : X.N[ic]? = some y := by rfl) (hyl : X.env.scope.names.lookup y = some .local := by rfl)
    (hs : X.stack = X.env :: X.outer := by rfl) (hf : X.env.frame = some X.env.locals := by rfl) (hg : Gl X x := by rfl) (hdb : (x == ("__debug__" : Str)) = false := by decide)
    (hsw : swapsWith (.Constant (.bool bv) jj p2) (some (.Name y p1)) p3.line X.env = pure false := by rfl) :
    BJ X Z Qr D sp (.Try body [.ExceptHandler (some (.Name x np)) none [.Assign [.Name y p1] (.Constant (.bool bv) jj p2) p3] pos'] [] [] pos :: rest) (((tryM ns' mb).bi fun r => .ok (Sum.elim fN (fun _ => fE) r)).bi kk) := fun F ad σ H S0 hm => by
  rw [bi_bi] at hm
  refine seq (ofS (ps_try_only (X := X) hs hf ⟨hg, hdb, .inl (xf.glo x (List.mem_append_right _ hts))⟩ (takes0 (X := X)) (tb := fun W D σ H => ∀ pn xe, Takes (X.tr pn xe) W → PassesOwn (model X.prog X.w) X.A X.env xe → wB (X.tr pn xe) body D σ H) (ts := fun a cls d D σ H => D.nx (σ.set ic (some (.bl bv))) H)
    (fun W pn xe tk po => ⟨fun pins s σ H D I h => pb_w.run pins s σ H D I (h pn xe tk po)⟩)
    (fun a oe cls d pn hz hv' => ⟨fun pins s σ H D I h => ?_⟩)) ?_)
  · have ps := ps_set (X := X.suite a ((a, oe) :: pn)) (i := ic) am.nd hy (.inl hyl) (pe_bl (X := X.suite a ((a, oe) :: pn))) hsw (.inr hyl)
    exact (pss_one ps).run pins s σ H D I h
  · intro pn xe tk po
    refine hb pn xe ⟨am.hr, am.calm, am.nd, po, fun _ _ _ => False, takes0, fun _ h => h.elim⟩ F ad σ H { D with nx := wB X rest D } (wOnly X.K (.ref (He.ga X.K x)) (fun a cls d D σ H => D.nx (σ.set ic (some (.bl bv))) H) (fun _ _ _ _ => False) { D with nx := wB X rest D }) S0 tk ?_
    refine (mwp.try (mwp.bi hm)).imp2 (fun r q F' ad' σ' H' S' => ?_) fun c ⟨hc', q⟩ C F' ad' H' S' hC => ?_
    · obtain ⟨ad2, S2⟩ := (leN r).go Z F' ad' σ' H' S'
      exact hr _ F' ad2 σ' H' S2 q
    · have hc := hin c hc'
      have eC : C = He.ga X.K c := by
        have z := (xf.glo c (List.mem_append_left _ hc)).symm.trans hC
        injection z with z
        injection z with z
        exact z.symm
      subst eC
      refine ⟨true, ?_, fun _ a na => ?_, fun z => nomatch z⟩
      · rw [xf.exm c hc x hts, List.all_eq_true.mp hsub c hc']
      · obtain ⟨ad2, S3⟩ := leE.go Z F' ad' (σ.set ic (some (.bl bv))) H' (S'.set ⟨.bl bv, rfl, rfl⟩)
        exact hr _ _ ad2 _ _ S3 q
end
end Wk

set_option Elab.async false
set_option linter.all false
set_option maxRecDepth 100000
set_option maxHeartbeats 4000000
namespace Wk
open PySem PySem.Spec PyProof.Rows L2
section
variable {X : Cx} {Z : Fz} {sp sp' : Spec X.K} {e : Expr} {α γ : Type}
/-! ### a new thing out of what is taken as if it stayed -/
def LocW {K : Frag} (vw : Vw K γ) : Prop := ∀ F F' H vs l s, (∀ p us, F p = some (.tup us) → F' p = some (.tup us)) → FdOk F H (vw s) vs l → FdOk F' H (vw s) vs l
theorem locw_V {K : Frag} {e : Enc K α} (h : LocE e) : LocW (vw1 (fV e)) := fun F F' H vs l s t r => by
  cases r with
  | val r1 r2 =>
    cases r2
    exact .val (h _ _ _ _ t r1) .nil
theorem locw_L {K : Frag} {e : Enc K α} (h : LocE e) : LocW (vw1 (fL e)) := fun F F' H vs l s t r => by
  cases r with
  | one h1 h2 r2 =>
    cases r2
    obtain ⟨us, k1, k2, k3⟩ := h2
    exact .one h1 ⟨us, k1, k2, Paired.imp (fun v a z => h _ _ _ _ t z) k3⟩ .nil
theorem locw_CV {K : Frag} {e : Enc K α} {r : Vw K γ} (h : LocE e) (hr : LocW r) : LocW (vwC (fV e) r) := fun F F' H vs l s t r => by
  cases r with
  | val r1 r2 => exact .val (h _ _ _ _ t r1) (hr _ _ _ _ _ _ t r2)
theorem locw_CL {K : Frag} {e : Enc K α} {r : Vw K γ} (h : LocE e) (hr : LocW r) : LocW (vwC (fL e) r) := fun F F' H vs l s t r => by
  cases r with
  | one h1 h2 r2 =>
    obtain ⟨us, k1, k2, k3⟩ := h2
    exact .one h1 ⟨us, k1, k2, Paired.imp (fun v a z => h _ _ _ _ t z) k3⟩ (hr _ _ _ _ _ _ t r2)
theorem mpj_tmpL {vw : Vw X.K γ} {sh : Sh} {m : Res γ} (fr : FrN sp sp') (lo : LocW vw) (h : MPJ X Z sp' e m (pkI sh vw) []) : MPJ X Z sp e m (pkI sh vw) [] := fun F ad σ H Q S hm => by
  obtain ⟨F1, S1, f1, g1⟩ := fr.go Z F ad σ H S
  refine h F1 ad σ H Q S1 (hm.imp fun s q F' H' p l n r nd hp hq => ?_)
  obtain ⟨o, vs, h1, h2, h3⟩ := r
  refine q (tupF F F') H' p l (tupF_nx n f1 g1) ⟨o, vs, h1, h2, lo _ _ _ _ _ _ (tupF_tup (f1.trans n.ff)) h3⟩ nd hp fun y hy => ?_
  obtain ⟨k1, k2, k3, k4⟩ := hq y hy
  refine ⟨k1, ?_, k3, k4⟩
  cases e : tupF F F' y with
  | none => rfl
  | some o =>
    have := tupF_le (f1.trans n.ff) _ _ e
    rw [k2] at this
    cases this
end
end Wk

set_option Elab.async false
set_option linter.all false
set_option maxRecDepth 100000
set_option maxHeartbeats 4000000
namespace Wk
open PySem PyProof.Rows L2
/-! ### plain laws of mirrors -/
abbrev Ok {α : Type} (m : Res α) (Q : α → Prop) : Prop := mwp m Q (fun _ => False)
section
variable {α β γ S ρ : Type} {m : Res α} {f : α → Res β} {P Q Q' : α → Prop} {R : β → Prop}
/-- as ok_bi, but never by reduction alone -/
theorem okb {a : α} : (Res.ok a).bi f = f a := id (Eq.refl _)
theorem Ok.eq {b : α} (h : Ok m (fun a => a = b)) : m = .ok b := by
  cases m with
  | ok a => exact congrArg _ (show a = b from h)
  | exc c => exact h.elim
  | bad => exact h.elim
theorem Ok.ex (h : Ok m Q) : ∃ a, m = .ok a ∧ Q a := by
  cases m with
  | ok a => exact ⟨a, rfl, h⟩
  | exc c => exact h.elim
  | bad => exact h.elim
theorem Ok.of {a : α} (e : m = .ok a) (h : Q a) : Ok m Q := by subst e; exact h
theorem Ok.bi (h : Ok m P) (k : ∀ a, P a → Ok (f a) R) : Ok (m.bi f) R := mwp_bi.mpr (mwp.imp h k)
theorem Ok.imp (h : Ok m P) (k : ∀ a, P a → Q a) : Ok m Q := mwp.imp h k
theorem ok_gd {c : Prop} [Decidable c] {a : α} (h : c) (q : Q a) : Ok (gd c a) Q := by rw [gd_pos h]; exact q
/-- an item, by its place from 0 on -/
def gx [Inhabited α] (xs : List α) (i : Int) : α := xs.getD i.toNat default
theorem ixN_pos {n : Nat} {i : Int} (h0 : 0 ≤ i) (h : i < n) : ixN n i = some i.toNat := by unfold ixN; rw [if_pos h0, if_pos h]
theorem ixN_neg {n : Nat} {i : Int} (h0 : i < 0) (h : -(n : Int) ≤ i) : ixN n i = some (i + n).toNat := by unfold ixN; rw [if_neg (by omega), if_pos h]
theorem gx_get [Inhabited α] {xs : List α} {i : Int} (h0 : 0 ≤ i) (h : i < xs.length) : xs[i.toNat]? = some (gx xs i) := by
  unfold gx
  have hl : i.toNat < xs.length := by omega
  rw [List.getElem?_eq_getElem hl, List.getD_eq_getElem?_getD, List.getElem?_eq_getElem hl]
  rfl
theorem geti_eq [Inhabited α] {xs : List α} {i : Int} (h0 : 0 ≤ i) (h : i < xs.length) : geti xs i = .ok (gx xs i) := by
  unfold geti atI
  rw [ixN_pos h0 h]
  show (match xs[i.toNat]? with
    | some a => Res.ok a
    | none => .bad) = _
  rw [gx_get h0 h]
theorem geti_neg [Inhabited α] {xs : List α} {i : Int} (h0 : i < 0) (h : -(xs.length : Int) ≤ i) : geti xs i = .ok (gx xs (i + xs.length)) := by
  unfold geti atI
  rw [ixN_neg h0 h]
  show (match xs[(i + xs.length).toNat]? with
    | some a => Res.ok a
    | none => .bad) = _
  rw [gx_get (by omega) (by omega)]
theorem seti_eq {xs : List α} {i : Int} {a : α} (h0 : 0 ≤ i) (h : i < xs.length) : seti xs i a = .ok (xs.set i.toNat a) := by
  unfold seti
  rw [ixN_pos h0 h]
theorem augi_eq {f : Int → Int → Int} {xs : List Int} {i v : Int} (h0 : 0 ≤ i) (h : i < xs.length) : augi f xs i v = .ok (xs.set i.toNat (f (gx xs i) v)) := by
  unfold augi
  rw [geti_eq h0 h, ok_bi, seti_eq h0 h]
theorem gx_nat [Inhabited α] {xs : List α} {n : Nat} {a : α} (h : xs[n]? = some a) : gx xs (n : Int) = a := by
  unfold gx
  rw [Int.toNat_natCast, List.getD_eq_getElem?_getD, h]
  rfl
theorem gx_mem [Inhabited α] {xs : List α} {i : Int} (h0 : 0 ≤ i) (h : i < xs.length) : gx xs i ∈ xs := List.mem_of_getElem? (gx_get h0 h)
theorem mem_gx [Inhabited α] {xs : List α} {a : α} (h : a ∈ xs) : ∃ i : Int, 0 ≤ i ∧ i < xs.length ∧ gx xs i = a := by
  obtain ⟨n, hn⟩ := List.mem_iff_getElem?.mp h
  have := getElem?_some_of hn
  exact ⟨n, by omega, by omega, gx_nat hn⟩
theorem gx_map [Inhabited α] [Inhabited β] {xs : List α} {f : α → β} {i : Int} (h0 : 0 ≤ i) (h : i < xs.length) : gx (xs.map f) i = f (gx xs i) := by
  have h1 := gx_get h0 h
  have h2 : (xs.map f)[i.toNat]? = some (f (gx xs i)) := by rw [List.getElem?_map, h1]; rfl
  have h3 := gx_get (xs := xs.map f) h0 (by rw [List.length_map]; exact h)
  rw [h2] at h3
  exact (Option.some.inj h3).symm
theorem gx_set [Inhabited α] {xs : List α} {i j : Int} {a : α} (hi : 0 ≤ i) (hj : 0 ≤ j) (h : i < xs.length) : gx (xs.set i.toNat a) j = if j = i then a else gx xs j := by
  unfold gx
  rw [List.getD_eq_getElem?_getD, List.getD_eq_getElem?_getD]
  by_cases e : j = i
  · subst e
    rw [if_pos rfl, List.getElem?_set_self (by omega)]
    rfl
  · rw [if_neg e, List.getElem?_set_ne (by omega)]
theorem ext_gx [Inhabited α] {xs ys : List α} (hl : xs.length = ys.length) (h : ∀ i : Int, 0 ≤ i → i < xs.length → gx xs i = gx ys i) : xs = ys := by
  refine List.ext_getElem? fun n => ?_
  by_cases hn : n < xs.length
  · have h1 := gx_get (xs := xs) (i := n) (by omega) (by omega)
    have h2 := gx_get (xs := ys) (i := n) (by omega) (by omega)
    rw [Int.toNat_natCast] at h1 h2
    rw [h1, h2, h n (by omega) (by omega)]
  · rw [List.getElem?_eq_none (by omega), List.getElem?_eq_none (by omega)]
theorem gx_append [Inhabited α] {xs ys : List α} {i : Int} (h0 : 0 ≤ i) : gx (xs ++ ys) i = if i < xs.length then gx xs i else gx ys (i - xs.length) := by
  unfold gx
  rw [List.getD_eq_getElem?_getD, List.getD_eq_getElem?_getD, List.getD_eq_getElem?_getD]
  by_cases h : i < xs.length
  · rw [if_pos h, List.getElem?_append_left (by omega)]
  · rw [if_neg h, List.getElem?_append_right (by omega)]
    congr 2
    omega
theorem app_eq {xs : List α} {y : α} (h : xs.length < sizeLine) : appM xs y = .ok (xs ++ [y]) := gd_pos h
theorem small_line {n : Nat} (h : n ≤ 16777216) : n ≤ sizeLine := by rw [sizeLine_eq]; omega
theorem small_lt {n : Nat} (h : n < 16777216) : n < sizeLine := by rw [sizeLine_eq]; omega
/-! ranges -/
theorem rng1_eq {j : Int} (h : -(2 ^ 62) ≤ j) (h2 : j ≤ 16777216) : rng1 j = .ok (rangeL 0 j) := gd_pos ⟨h, h2⟩
theorem rng2_eq {i j : Int} (h : -(2 ^ 62) ≤ i) (h1 : i < 2 ^ 62) (h2 : -(2 ^ 62) ≤ j) (h3 : j < 2 ^ 62) (h4 : j - i ≤ 16777216) : rng2 i j = .ok (rangeL i j) := gd_pos ⟨h, h1, h2, h3, h4⟩
theorem mem_rangeL {a b y : Int} : y ∈ rangeL a b ↔ a ≤ y ∧ y < b := by
  unfold rangeL
  rw [List.mem_map]
  constructor
  · rintro ⟨i, hi, rfl⟩
    rw [List.mem_range] at hi
    omega
  · rintro ⟨h1, h2⟩
    exact ⟨(y - a).toNat, by rw [List.mem_range]; omega, by omega⟩
theorem gx_rangeL {a b i : Int} (h0 : 0 ≤ i) (h : i < b - a) : gx (rangeL a b) i = a + i := by
  have h1 := gx_get (xs := rangeL a b) h0 (by rw [rangeL_length]; omega)
  obtain ⟨_, h2⟩ := rangeL_get h1
  rw [h2]
  omega
/-! walks -/
theorem loopC_ok {l : List α} {s : S} {B : α → S → (S → Res ρ) → Res ρ} {k : S → Res ρ} {Q : ρ → Prop} (I : Nat → S → Prop) (h0 : I 0 s) (hb : ∀ i y s next, l[i]? = some y → I i s → (∀ s', I (i + 1) s' → Ok (next s') Q) → Ok (B y s next) Q) (hk : ∀ s, I l.length s → Ok (k s) Q) : Ok (loopC l s B k) Q := by
  induction l generalizing s I with
  | nil => exact hk s h0
  | cons x r ih =>
    refine hb 0 x s _ rfl h0 fun s' h' => ?_
    exact ih (fun i => I (i + 1)) h' (fun i y s next e hI n => hb (i + 1) y s next e hI n) hk
theorem foldM_ok {l : List α} {s : S} {f : α → S → Res S} (I : Nat → S → Prop) (h0 : I 0 s) (hb : ∀ i y s, l[i]? = some y → I i s → Ok (f y s) (I (i + 1))) : Ok (foldM l s f) (I l.length) := by
  induction l generalizing s I with
  | nil => exact h0
  | cons x r ih =>
    refine Ok.bi (hb 0 x s rfl h0) fun s' h' => ?_
    exact ih (fun i => I (i + 1)) h' fun i y s e hI => hb (i + 1) y s e hI
theorem foldM_eq {l : List α} {s : S} {f : α → S → Res S} {g : S → α → S} (h : ∀ y ∈ l, ∀ s, f y s = .ok (g s y)) : foldM l s f = .ok (l.foldl g s) := by
  induction l generalizing s with
  | nil => rfl
  | cons x r ih =>
    show (f x s).bi _ = _
    rw [h x (List.mem_cons_self ..)]
    exact ih fun y hy => h y (List.mem_cons_of_mem _ hy)
/-- a walk that is never left: it ends -/
theorem loopC_all {l : List α} {s : S} {B : α → S → (S → Res ρ) → Res ρ} {k : S → Res ρ} {g : S → α → S} (h : ∀ y ∈ l, ∀ s next, B y s next = next (g s y)) : loopC l s B k = k (l.foldl g s) := by
  induction l generalizing s with
  | nil => rfl
  | cons x r ih =>
    show B x s _ = _
    rw [h x (List.mem_cons_self ..)]
    exact ih fun y hy => h y (List.mem_cons_of_mem _ hy)
theorem mapMx_eq {l : List β} {f : β → Res α} {g : β → α} (h : ∀ y ∈ l, f y = .ok (g y)) : mapMx l f = .ok (l.map g) := by
  induction l with
  | nil => rfl
  | cons x r ih =>
    show (f x).nx.bi _ = _
    rw [h x (List.mem_cons_self ..), ih fun y hy => h y (List.mem_cons_of_mem _ hy)]
    rfl
theorem mapMx_ok2 [Inhabited α] [Inhabited β] {l : List β} {f : β → Res α} {P : β → α → Prop} (h : ∀ y ∈ l, Ok (f y) (P y)) : Ok (mapMx l f) (fun zs => zs.length = l.length ∧ ∀ i : Int, 0 ≤ i → i < l.length → P (gx l i) (gx zs i)) := by
  have h2 : ∀ y, ∃ z, y ∈ l → f y = .ok z ∧ P y z := fun y => by
    by_cases hy : y ∈ l
    · obtain ⟨z, h1, h2⟩ := (h y hy).ex
      exact ⟨z, fun _ => ⟨h1, h2⟩⟩
    · exact ⟨default, fun z => absurd z hy⟩
  refine Ok.of (mapMx_eq fun y hy => ((Classical.choose_spec (h2 y)) hy).1) ⟨by rw [List.length_map], fun i h0 hi => ?_⟩
  rw [gx_map h0 hi]
  exact ((Classical.choose_spec (h2 (gx l i))) (gx_mem h0 hi)).2
theorem compM_eq {l : List β} {c : β → Res Bool} {f : β → Res α} {b : β → Bool} {g : β → α} (hc : ∀ y ∈ l, c y = .ok (b y)) (h : ∀ y ∈ l, b y = true → f y = .ok (g y)) : compM l c f = .ok ((l.filter b).map g) := by
  induction l with
  | nil => rfl
  | cons x r ih =>
    show (c x).nx.bi _ = _
    rw [hc x (List.mem_cons_self ..), List.filter_cons]
    show (if b x then (f x).nx.bi _ else _) = _
    have ih := ih (fun y hy => hc y (List.mem_cons_of_mem _ hy)) fun y hy => h y (List.mem_cons_of_mem _ hy)
    rw [ih]
    cases hb : b x with
    | false => rfl
    | true =>
      rw [if_pos rfl, h x (List.mem_cons_self ..) hb]
      rfl
theorem whileM_ok {n : Nat} {s : S} {c : S → Res Bool} {B : S → Res S} {Q : S → Prop} (I : Nat → S → Prop) {k : Nat} (h0 : I k s) (hk : k < n) (hb : ∀ k s, I k s → Ok (c s) (fun b => if b = true then (∃ j, k = j + 1 ∧ Ok (B s) (I j)) else Q s)) : Ok (whileM n s c B) Q := by
  induction n generalizing s k with
  | zero => omega
  | succ n ih =>
    refine Ok.bi (hb k s h0) fun b hbv => ?_
    cases b with
    | false => exact hbv
    | true =>
      obtain ⟨j, e, h⟩ := hbv
      refine Ok.bi h fun s' h' => ih h' (by omega)
theorem whileC_ok {n : Nat} {s : S} {c : S → Res Bool} {B : S → (S → Res ρ) → Res ρ} {kk : S → Res ρ} {Q : ρ → Prop} (I : Nat → S → Prop) {k : Nat} (h0 : I k s) (hk : k < n) (hb : ∀ k s, I k s → Ok (c s) (fun b => if b = true then (∃ j, k = j + 1 ∧ ∀ next : S → Res ρ, (∀ s', I j s' → Ok (next s') Q) → Ok (B s next) Q) else Ok (kk s) Q)) : Ok (whileC n s c B kk) Q := by
  induction n generalizing s k with
  | zero => omega
  | succ n ih =>
    refine Ok.bi (hb k s h0) fun b hbv => ?_
    cases b with
    | false => exact hbv
    | true =>
      obtain ⟨j, e, h⟩ := hbv
      exact h _ fun s' h' => ih h' (by omega)
/-! sizes -/
/-- below 2 ** a, either way -/
def Bd (a : Nat) (x : Int) : Prop := x.natAbs < 2 ^ a
theorem Bd.mono {a b : Nat} {x : Int} (h : Bd a x) (hab : a ≤ b) : Bd b x := Nat.lt_of_lt_of_le h (Nat.pow_le_pow_right (by omega) hab)
theorem Bd.mul {a b : Nat} {x y : Int} (h : Bd a x) (k : Bd b y) : Bd (a + b) (x * y) := by
  unfold Bd at *
  rw [Int.natAbs_mul, Nat.pow_add]
  exact Nat.mul_lt_mul'' h k
theorem Bd.add {a : Nat} {x y : Int} (h : Bd a x) (k : Bd a y) : Bd (a + 1) (x + y) := by
  unfold Bd at *
  have := Int.natAbs_add_le x y
  rw [Nat.pow_succ]
  omega
theorem Bd.sub {a : Nat} {x y : Int} (h : Bd a x) (k : Bd a y) : Bd (a + 1) (x - y) := by
  unfold Bd at *
  have := Int.natAbs_sub_le x y
  rw [Nat.pow_succ]
  omega
theorem Bd.bits {n : Nat} {x : Int} (h : PySem.Builtin.Int.intBits x ≤ n) : Bd (n + 1) x := by
  unfold Bd
  unfold PySem.Builtin.Int.intBits at h
  by_cases h0 : x.natAbs = 0
  · rw [h0]
    exact Nat.two_pow_pos _
  · rw [if_neg (by simpa using fun e => h0 (by rw [e]; rfl))] at h
    exact (Nat.log2_lt h0).mp (by omega)
theorem mulM_eq {x y : Int} (a b : Nat) (h : Bd a x) (k : Bd b y) (hab : a + b < 100000000 := by decide) : mulM x y = .ok (x * y) := by
  refine gd_pos ?_
  unfold mulOk
  have lg : ∀ (n : Nat) (z : Int), Bd n z → z.natAbs.log2 ≤ n := fun n z hz => by
    by_cases h0 : z.natAbs = 0
    · rw [h0]
      exact Nat.le_trans (Nat.le_of_eq (by decide)) (Nat.zero_le n)
    · exact Nat.le_of_lt ((Nat.log2_lt h0).mpr hz)
  have h1 := lg a x h
  have h2 := lg b y k
  omega
theorem mulOk_lo {x y : Int} (h : Bd 2000000 x) (k : Bd 2000000 y) : mulM x y = .ok (x * y) := mulM_eq 2000000 2000000 h k
theorem Bd.of {a : Nat} {x : Int} (n : Nat) (h : -(n : Int) ≤ x) (h2 : x ≤ n) (h3 : n < 2 ^ a := by decide) : Bd a x := by
  unfold Bd
  omega
theorem modM_eq {x y : Int} (h : 0 < y) : modM x y = .ok (x % y) := gd_pos h
end
end Wk

set_option Elab.async false
set_option linter.all false
set_option maxRecDepth 100000
set_option maxHeartbeats 4000000
namespace Wk
open PySem PyProof.Rows L2
theorem mul_small {x y : Int} (h : -(10 ^ 60) ≤ x) (h2 : x ≤ 10 ^ 60) (k : -(10 ^ 60) ≤ y) (k2 : y ≤ 10 ^ 60) : mulM x y = .ok (x * y) :=
  mulM_eq 200 200 (Bd.of (10 ^ 60) (by omega) (by omega)) (Bd.of (10 ^ 60) (by omega) (by omega))
theorem mul_bd {x y a b : Int} (h : 0 ≤ x) (h2 : x ≤ a) (k : 0 ≤ y) (k2 : y ≤ b) : 0 ≤ x * y ∧ x * y ≤ a * b :=
  ⟨Int.mul_nonneg h k, Int.mul_le_mul h2 k2 k (by omega)⟩
theorem emod_bd (x : Int) {m : Int} (h : 0 < m) : 0 ≤ x % m ∧ x % m < m := ⟨Int.emod_nonneg _ (by omega), Int.emod_lt_of_pos _ h⟩
end Wk

set_option Elab.async false
set_option linter.all false
set_option maxRecDepth 100000
set_option maxHeartbeats 4000000
namespace Wk
open PySem PyProof.Rows L2
/-! ### rivers -/
structure Riv (r : List Int) (rk : Int → Int) : Prop where
  rng : ∀ i : Int, 0 ≤ i → i < r.length → gx r i = -1 ∨ (0 ≤ gx r i ∧ gx r i < r.length ∧ rk (gx r i) < rk i)
  rk0 : ∀ i : Int, 0 ≤ i → i < r.length → 0 ≤ rk i ∧ rk i < r.length
/-- a place of the river, or behind its mouth -/
def Pl (r : List Int) (i : Int) : Prop := i = -1 ∨ (0 ≤ i ∧ i < r.length)
theorem Riv.pl {r : List Int} {rk : Int → Int} (R : Riv r rk) {i : Int} (h0 : 0 ≤ i) (h : i < r.length) : Pl r (gx r i) := by
  rcases R.rng i h0 h with h | ⟨h1, h2, _⟩
  · exact .inl h
  · exact .inr ⟨h1, h2⟩
def wayF (r : List Int) : Nat → Int → List Int
  | 0, _ => []
  | n + 1, i => if i = -1 then [] else i :: wayF r n (gx r i)
def wayL (r : List Int) (i : Int) : List Int := wayF r r.length i
section
variable {r : List Int} {rk : Int → Int}
theorem wayF_same (R : Riv r rk) : ∀ (m m' : Nat) (i : Int), (i = -1 ∨ (0 ≤ i ∧ i < r.length ∧ rk i < m ∧ rk i < m')) → wayF r m i = wayF r m' i
  | 0, 0, _, _ => rfl
  | 0, m' + 1, i, h => by
    rcases h with h | ⟨h0, h1, h2, h3⟩
    · subst h; rfl
    · have := (R.rk0 i h0 h1).1
      omega
  | m + 1, 0, i, h => by
    rcases h with h | ⟨h0, h1, h2, h3⟩
    · subst h; rfl
    · have := (R.rk0 i h0 h1).1
      omega
  | m + 1, m' + 1, i, h => by
    unfold wayF
    by_cases e : i = -1
    · rw [if_pos e, if_pos e]
    · rw [if_neg e, if_neg e]
      rcases h with h | ⟨h0, h1, h2, h3⟩
      · exact absurd h e
      · rw [wayF_same R m m' (gx r i) ?_]
        rcases R.rng i h0 h1 with h | ⟨k0, k1, k2⟩
        · exact .inl h
        · exact .inr ⟨k0, k1, by omega, by omega⟩
theorem way_end : wayL r (-1) = [] := by
  unfold wayL
  cases r.length <;> rfl
theorem way_step (R : Riv r rk) {i : Int} (h0 : 0 ≤ i) (h : i < r.length) : wayL r i = i :: wayL r (gx r i) := by
  unfold wayL
  have h2 := R.rk0 i h0 h
  rw [wayF_same R r.length (r.length + 1) i (.inr ⟨h0, h, h2.2, by omega⟩)]
  show (if i = -1 then [] else i :: wayF r r.length (gx r i)) = _
  rw [if_neg (by omega)]
theorem Riv.ind (R : Riv r rk) {P : Int → Prop} (h1 : P (-1)) (h : ∀ i : Int, 0 ≤ i → i < r.length → P (gx r i) → P i) : ∀ i, Pl r i → P i := by
  have key : ∀ (n : Nat) (i : Int), 0 ≤ i → i < r.length → rk i < n → P i := by
    intro n
    induction n with
    | zero =>
      intro i h0 hi hr
      have := (R.rk0 i h0 hi).1
      omega
    | succ n ih =>
      intro i h0 hi hr
      refine h i h0 hi ?_
      rcases R.rng i h0 hi with e | ⟨a, b, c⟩
      · rw [e]; exact h1
      · exact ih _ a b (by omega)
  intro i hi
  rcases hi with e | ⟨a, b⟩
  · subst e; exact h1
  · exact key (rk i + 1).toNat i a b (by omega)
theorem way_len (R : Riv r rk) : ∀ i, Pl r i → (wayL r i).length ≤ r.length ∧ (0 ≤ i → ((wayL r i).length : Int) ≤ rk i + 1) := by
  refine R.ind ⟨by rw [way_end]; simp, fun h => by omega⟩ fun i h0 h ih => ?_
  rw [way_step R h0 h, List.length_cons]
  have h2 := R.rk0 i h0 h
  have h3 : ((wayL r (gx r i)).length : Int) ≤ rk i := by
    rcases R.rng i h0 h with e | ⟨a, b, c⟩
    · rw [e, way_end]
      simp
      omega
    · have := ih.2 a
      omega
  omega
theorem way_mem (R : Riv r rk) : ∀ i, Pl r i → ∀ j ∈ wayL r i, 0 ≤ j ∧ j < r.length := by
  refine R.ind (fun j hj => by rw [way_end] at hj; cases hj) fun i h0 h ih j hj => ?_
  rw [way_step R h0 h] at hj
  rcases List.mem_cons.mp hj with rfl | hj
  · exact ⟨h0, h⟩
  · exact ih j hj
/-- whose way is longer comes first -/
def lenW (r : List Int) (i : Int) : Int := (wayL r i).length
theorem lenW_step (R : Riv r rk) {i : Int} (h0 : 0 ≤ i) (h : i < r.length) : lenW r i = lenW r (gx r i) + 1 := by
  unfold lenW
  rw [way_step R h0 h, List.length_cons]
  omega
def keyW (r : List Int) (i : Int) : Int × Int := (0 - lenW r i, i)
def topsL (r : List Int) : List Int := (((rangeL 0 r.length).map (keyW r)).mergeSort leP).map (·.2)
theorem tops_perm (r : List Int) : (topsL r).Perm (rangeL 0 r.length) := by
  unfold topsL
  refine ((sort_pair _).1.map _).trans ?_
  rw [List.map_map]
  rw [show ((fun (x : Int × Int) => x.2) ∘ keyW r) = id from rfl, List.map_id]
theorem tops_len (r : List Int) : (topsL r).length = r.length := by
  rw [(tops_perm r).length_eq, rangeL_length]
  omega
theorem tops_mem {r : List Int} {i : Int} : i ∈ topsL r ↔ 0 ≤ i ∧ i < r.length := by rw [(tops_perm r).mem_iff, mem_rangeL]
theorem tops_sorted (r : List Int) : (topsL r).Pairwise fun a b => lenW r b < lenW r a ∨ (lenW r a = lenW r b ∧ a ≤ b) := by
  unfold topsL
  rw [List.pairwise_map]
  have h1 := (sort_pair ((rangeL 0 r.length).map (keyW r))).2
  have h2 : ∀ x ∈ ((rangeL 0 r.length).map (keyW r)).mergeSort leP, x = keyW r x.2 := fun x hx => by
    rw [(sort_pair _).1.mem_iff, List.mem_map] at hx
    obtain ⟨y, _, rfl⟩ := hx
    rfl
  refine h1.imp_of_mem fun {a b} ha hb h => ?_
  have ea := h2 a ha
  have eb := h2 b hb
  have e1 : a.1 = 0 - lenW r a.2 := congrArg Prod.fst ea
  have e2 : b.1 = 0 - lenW r b.2 := congrArg Prod.fst eb
  unfold leP at h
  simp only [Bool.or_eq_true, Bool.and_eq_true, decide_eq_true_eq] at h
  omega
theorem nodup_rangeL (a b : Int) : (rangeL a b).Nodup := by
  unfold rangeL
  refine List.Pairwise.map _ (fun x y h => ?_) List.nodup_range
  omega
theorem tops_nodup (r : List Int) : (topsL r).Nodup := (tops_perm r).nodup_iff.mpr (nodup_rangeL _ _)
theorem rangeL_sorted (a b : Int) : (rangeL a b).Pairwise (· ≤ ·) := by
  unfold rangeL
  rw [List.pairwise_map]
  exact List.pairwise_lt_range.imp fun h => by omega
theorem sorted_range {xs : List Int} {n : Int} (h : xs.Perm (rangeL 0 n)) : xs.mergeSort leI = rangeL 0 n := by
  obtain ⟨h1, h2⟩ := sort_int xs
  exact perm_sorted_eq (fun a b => Int.le_antisymm) (h1.trans h) h2 (rangeL_sorted _ _)
/-- what flows on comes behind -/
theorem tops_behind (R : Riv r rk) {i : Nat} {q : Int} (hq : (topsL r)[i]? = some q) (hb : gx r q ≠ -1) : gx r q ∉ (topsL r).take (i + 1) := fun hm => by
  have hmem := List.mem_of_getElem? hq
  obtain ⟨h0, h1⟩ := tops_mem.mp hmem
  obtain ⟨j, hj⟩ := List.mem_iff_getElem?.mp hm
  have hjl := getElem?_some_of hj
  rw [List.length_take] at hjl
  rw [List.getElem?_take_of_lt (by omega)] at hj
  have hs := lenW_step R h0 h1
  by_cases e : j = i
  · subst e
    rw [hq] at hj
    have e2 : q = gx r q := Option.some.inj hj
    rw [← e2] at hs
    omega
  · have hi := getElem?_some_of hq
    have hjl2 := getElem?_some_of hj
    have := (List.pairwise_iff_getElem.mp (tops_sorted r)) j i hjl2 hi (by omega)
    rw [List.getElem?_eq_getElem hi] at hq
    rw [List.getElem?_eq_getElem hjl2] at hj
    have e1 : (topsL r)[i] = q := Option.some.inj hq
    have e2 : (topsL r)[j] = gx r q := Option.some.inj hj
    rw [e1, e2] at this
    omega
end
/-! ### sums -/
/-- what comes in at p of those in l -/
def inS (r N : List Int) (l : List Int) (p : Int) : Int := ((l.filter fun q => decide (gx r q = p)).map (gx N)).sum
theorem perm_sum {l l' : List Int} (h : l.Perm l') : l.sum = l'.sum := by
  induction h with
  | nil => rfl
  | cons x _ ih => rw [List.sum_cons, List.sum_cons, ih]
  | swap x y l => rw [List.sum_cons, List.sum_cons, List.sum_cons, List.sum_cons]; omega
  | trans _ _ h1 h2 => exact h1.trans h2
theorem inS_perm {r N l l' : List Int} {p : Int} (h : l.Perm l') : inS r N l p = inS r N l' p := perm_sum ((h.filter _).map _)
theorem inS_snoc {r N l : List Int} {q p : Int} : inS r N (l ++ [q]) p = inS r N l p + if gx r q = p then gx N q else 0 := by
  unfold inS
  rw [List.filter_append, List.map_append, List.sum_append]
  by_cases h : gx r q = p
  · simp [h]
  · simp [h]
theorem inS_congr {r N N' l : List Int} {p : Int} (h : ∀ q ∈ l, gx N q = gx N' q) : inS r N l p = inS r N' l p := by
  unfold inS
  congr 1
  refine List.map_congr_left fun q hq => h q (List.mem_filter.mp hq).1
theorem inS_nil {r N : List Int} {p : Int} : inS r N [] p = 0 := rfl
theorem take_snoc {α : Type} {l : List α} {i : Nat} {q : α} (h : l[i]? = some q) : l.take (i + 1) = l.take i ++ [q] := by
  rw [List.take_add_one, h]
  rfl
end Wk

set_option Elab.async false
set_option linter.all false
set_option maxRecDepth 100000
set_option maxHeartbeats 4000000
namespace Wk
open PySem PyProof.Rows L2
theorem riv_of {found : List Int} {n : Nat} {P : Int → Int} (hl : found.length = n) (hr : ∀ k : Int, 0 ≤ k → k < n → 0 ≤ P k ∧ P k < n) (hi : ∀ j k : Int, 0 ≤ j → j < n → 0 ≤ k → k < n → P j = P k → j = k)
    (h : ∀ p : Int, 0 ≤ p → p < n → gx found p = -1 ∨ ∃ k u : Int, 0 ≤ u ∧ u < k ∧ k < n ∧ p = P k ∧ gx found p = P u) (hn : 0 < n) : ∃ rk, Riv found rk := by
  classical
  let rk : Int → Int := fun p => if hp : ∃ k : Int, 0 ≤ k ∧ k < n ∧ P k = p then Classical.choose hp else 0
  have hrk : ∀ k : Int, 0 ≤ k → k < n → rk (P k) = k := fun k h0 h1 => by
    have hp : ∃ j : Int, 0 ≤ j ∧ j < n ∧ P j = P k := ⟨k, h0, h1, rfl⟩
    show (if hp : ∃ j : Int, 0 ≤ j ∧ j < n ∧ P j = P k then Classical.choose hp else 0) = k
    rw [dif_pos hp]
    obtain ⟨a, b, c⟩ := Classical.choose_spec hp
    exact hi _ _ a b h0 h1 c
  refine ⟨rk, fun p h0 h1 => ?_, fun p h0 h1 => ?_⟩
  · rw [hl] at h1
    rcases h p h0 h1 with e | ⟨k, u, a, b, c, d, e⟩
    · exact .inl e
    · have := hr u a (by omega)
      rw [e, d, hrk k (by omega) c, hrk u a (by omega), hl]
      exact .inr ⟨this.1, this.2, b⟩
  · rw [hl]
    show 0 ≤ (if hp : ∃ k : Int, 0 ≤ k ∧ k < n ∧ P k = p then Classical.choose hp else 0) ∧ (if hp : ∃ k : Int, 0 ≤ k ∧ k < n ∧ P k = p then Classical.choose hp else 0) < (n : Int)
    by_cases hp : ∃ k : Int, 0 ≤ k ∧ k < n ∧ P k = p
    · rw [dif_pos hp]
      obtain ⟨a, b, c⟩ := Classical.choose_spec hp
      exact ⟨a, b⟩
    · rw [dif_neg hp]
      exact ⟨Int.le_refl 0, by omega⟩
theorem gx_inj {l : List Int} (hn : l.Nodup) {i j : Int} (h0 : 0 ≤ i) (h1 : i < l.length) (k0 : 0 ≤ j) (k1 : j < l.length) (e : gx l i = gx l j) : i = j := by
  have a := gx_get h0 h1
  have b := gx_get k0 k1
  rw [← e] at b
  have hi := getElem?_some_of a
  have hj := getElem?_some_of b
  rw [List.getElem?_eq_getElem hi] at a
  rw [List.getElem?_eq_getElem hj] at b
  have := (List.getElem_inj hn).mp ((Option.some.inj a).trans (Option.some.inj b).symm)
  omega
theorem rangeL_snoc (n : Nat) : rangeL 0 ((n : Int) + 1) = rangeL 0 n ++ [(n : Int)] := by
  unfold rangeL
  rw [show ((n : Int) + 1 - 0).toNat = n + 1 by omega, show ((n : Int) - 0).toNat = n by omega, List.range_succ, List.map_append]
  simp
theorem gx_rep {n : Nat} {a : Int} {i : Int} (h0 : 0 ≤ i) (h : i < n) : gx (List.replicate n a) i = a := by
  unfold gx
  rw [List.getD_eq_getElem?_getD, List.getElem?_replicate, if_pos (by omega)]
  rfl
theorem rep_flat {α : Type} (n : Nat) (a : α) : (List.replicate n [a]).flatten = List.replicate n a := by
  induction n with
  | zero => rfl
  | succ n ih => rw [List.replicate_succ, List.flatten_cons, ih]; rfl
theorem rep_eq {α : Type} {k : Int} {a : α} (h0 : 0 ≤ k) (h : k ≤ 16777216) : repM [a] k = .ok (List.replicate k.toNat a) := by
  have hs : ([a] : List α).length * k.toNat ≤ sizeLine := by
    rw [List.length_singleton, Nat.one_mul, sizeLine_eq]
    omega
  unfold repM
  rw [gd_pos ⟨by omega, by omega, hs⟩, rep_flat]
theorem cat_eq {α : Type} {xs ys : List α} (h : xs.length + ys.length ≤ 16777216) : catM xs ys = .ok (xs ++ ys) := gd_pos (small_line h)
theorem ins_eq {α : Type} {xs : List α} {i : Int} {y : α} (h : xs.length < 16777216) (h0 : 0 ≤ i) (h1 : i < 2 ^ 60) : insM xs i y = .ok (xs.take i.toNat ++ [y] ++ xs.drop i.toNat) := gd_pos ⟨small_lt h, h0, by omega⟩
theorem ins_perm {α : Type} (xs : List α) (n : Nat) (y : α) : (xs.take n ++ [y] ++ xs.drop n).Perm (xs ++ [y]) := by
  have h1 : (xs.take n ++ [y] ++ xs.drop n).Perm (y :: (xs.take n ++ xs.drop n)) := by
    rw [List.append_assoc]
    exact List.perm_middle
  rw [List.take_append_drop] at h1
  exact h1.trans (List.perm_append_comm (l₁ := [y]) (l₂ := xs))
theorem pow_eq {x : Int} {n : Nat} (h : x.natAbs < 2 ^ 64) : powM x n = .ok (x ^ n) := gd_pos h
theorem mem_of_gx {l : List Int} {i : Int} {n : Int} (hp : l.Perm (rangeL 0 n)) (h0 : 0 ≤ i) (h : i < l.length) : 0 ≤ gx l i ∧ gx l i < n := mem_rangeL.mp (hp.mem_iff.mp (gx_mem h0 h))
theorem rangeL_cons {a b : Int} (h : a < b) : rangeL a b = a :: rangeL (a + 1) b := by
  unfold rangeL
  rw [show (b - a).toNat = (b - (a + 1)).toNat + 1 by omega, List.range_succ_eq_map, List.map_cons, List.map_map]
  congr 1
  · simp
  · refine List.map_congr_left fun i _ => ?_
    show a + ((i.succ : Nat) : Int) = a + 1 + (i : Int)
    omega
theorem rangeL_nil {a b : Int} (h : b ≤ a) : rangeL a b = [] := by
  unfold rangeL
  rw [show (b - a).toNat = 0 by omega]
  rfl
/-- a walk over the numbers from a on, below b -/
theorem foldR_ok {S : Type} {a b : Int} (hab : a ≤ b) {s : S} {f : Int → S → Res S} (I : Int → S → Prop) (h0 : I a s) (hb : ∀ y s, a ≤ y → y < b → I y s → Ok (f y s) (I (y + 1))) : Ok (foldM (rangeL a b) s f) (I b) := by
  have key : ∀ (n : Nat) (a : Int) (s : S), a ≤ b → (b - a).toNat = n → I a s → (∀ y s, a ≤ y → y < b → I y s → Ok (f y s) (I (y + 1))) → Ok (foldM (rangeL a b) s f) (I b) := by
    intro n
    induction n with
    | zero =>
      intro a s hab hn h0 _
      have e : a = b := by omega
      subst e
      rw [rangeL_nil (Int.le_refl _)]
      exact h0
    | succ n ih =>
      intro a s hab hn h0 hb
      rw [rangeL_cons (by omega)]
      refine Ok.bi (hb a s (Int.le_refl _) (by omega) h0) fun s' h' => ?_
      exact ih (a + 1) s' (by omega) (by omega) h' fun y s h1 h2 h3 => hb y s (by omega) h2 h3
  exact key _ a s hab rfl h0 hb
theorem loopR_ok {S ρ : Type} {a b : Int} (hab : a ≤ b) {s : S} {B : Int → S → (S → Res ρ) → Res ρ} {k : S → Res ρ} {Q : ρ → Prop} (I : Int → S → Prop) (h0 : I a s) (hb : ∀ y s next, a ≤ y → y < b → I y s → (∀ s', I (y + 1) s' → Ok (next s') Q) → Ok (B y s next) Q) (hk : ∀ s, I b s → Ok (k s) Q) : Ok (loopC (rangeL a b) s B k) Q := by
  have key : ∀ (n : Nat) (a : Int) (s : S), a ≤ b → (b - a).toNat = n → I a s → (∀ y s next, a ≤ y → y < b → I y s → (∀ s', I (y + 1) s' → Ok (next s') Q) → Ok (B y s next) Q) → Ok (loopC (rangeL a b) s B k) Q := by
    intro n
    induction n with
    | zero =>
      intro a s hab hn h0 _
      have e : a = b := by omega
      subst e
      rw [rangeL_nil (Int.le_refl _)]
      exact hk s h0
    | succ n ih =>
      intro a s hab hn h0 hb
      rw [rangeL_cons (by omega)]
      refine hb a s _ (Int.le_refl _) (by omega) h0 fun s' h' => ?_
      exact ih (a + 1) s' (by omega) (by omega) h' fun y s next h1 h2 h3 h4 => hb y s next (by omega) h2 h3 h4
  exact key _ a s hab rfl h0 hb
end Wk

set_option Elab.async false
set_option linter.all false
set_option maxRecDepth 100000
set_option maxHeartbeats 4000000
namespace Wk
open PySem PyProof.Rows L2
/-! ### stretches -/
def strL (r : List Int) (start stop : Int) : List Int := (wayL r start).takeWhile fun y => !decide (y = stop)
theorem cut_pre {α : Type} (xs : List α) (j : Nat) : cutL xs none (some (j : Int)) = xs.take j := by
  unfold cutL
  rw [HT.sIx_nat]
  show (xs.drop 0).take (min j xs.length - 0) = _
  rw [List.drop_zero, Nat.sub_zero]
  by_cases h : j ≤ xs.length
  · rw [Nat.min_eq_left h]
  · rw [Nat.min_eq_right (by omega), List.take_of_length_le (Nat.le_refl _), List.take_of_length_le (by omega)]
theorem tw_all {α : Type} {f : α → Bool} : ∀ {xs : List α}, (∀ x ∈ xs, f x = true) → xs.takeWhile f = xs
  | [], _ => rfl
  | x :: xs, h => by
    rw [List.takeWhile_cons, if_pos (h x (List.mem_cons_self ..)), tw_all fun y hy => h y (List.mem_cons_of_mem _ hy)]
theorem take_first : ∀ {xs : List Int} {x : Int} {j : Nat}, xs[j]? = some x → (∀ m < j, ∀ z, xs[m]? = some z → z ≠ x) → xs.take j = xs.takeWhile fun y => !decide (y = x)
  | [], _, _, h, _ => by simp at h
  | y :: ys, x, 0, h, _ => by
    have e : y = x := by simpa using h
    subst e
    simp
  | y :: ys, x, j + 1, h, hn => by
    have h1 : y ≠ x := hn 0 (by omega) y rfl
    rw [List.take_succ_cons, List.takeWhile_cons, if_pos (by simpa using h1)]
    rw [take_first (xs := ys) (by simpa using h) fun m hm z hz => hn (m + 1) (by omega) z (by simpa using hz)]
theorem idx_take {xs : List Int} {x : Int} (h : x ∈ xs) : ∃ j : Nat, idxM xs x = .ok (j : Int) ∧ xs[j]? = some x ∧ xs.take j = xs.takeWhile fun y => !decide (y = x) := by
  unfold idxM
  cases e : xs.findIdx? (fun y => decide (y = x)) with
  | none =>
    rw [List.findIdx?_eq_none_iff] at e
    have := e x h
    simp at this
  | some j =>
    obtain ⟨h1, h2⟩ := find_some e
    exact ⟨j, rfl, h1, take_first h1 h2⟩
theorem cut_idx {xs : List Int} {x : Int} (h : x ∈ xs) : ((idxM xs x).bi fun i => Res.ok (cutL xs none (some i))) = .ok (xs.takeWhile fun y => !decide (y = x)) := by
  obtain ⟨j, h1, _, h3⟩ := idx_take h
  rw [h1, ok_bi, cut_pre, h3]
section
variable {r : List Int} {rk : Int → Int}
theorem way_ne (R : Riv r rk) {i : Int} (hi : Pl r i) : -1 ∉ wayL r i := fun h => by
  have := way_mem R i hi _ h
  omega
theorem str_end (R : Riv r rk) {i : Int} (hi : Pl r i) : strL r i (-1) = wayL r i := by
  unfold strL
  refine tw_all fun y hy => ?_
  have := way_mem R i hi y hy
  simp
  omega
theorem way_rk (R : Riv r rk) : ∀ i, Pl r i → ∀ j ∈ wayL r i, 0 ≤ i ∧ rk j ≤ rk i := by
  refine R.ind (fun j hj => by rw [way_end] at hj; cases hj) fun i h0 h ih j hj => ?_
  rw [way_step R h0 h] at hj
  rcases List.mem_cons.mp hj with rfl | hj
  · exact ⟨h0, Int.le_refl _⟩
  · have h1 := ih j hj
    rcases R.rng i h0 h with e | ⟨a, b, c⟩
    · omega
    · exact ⟨h0, by omega⟩
theorem way_not (R : Riv r rk) {i : Int} (h0 : 0 ≤ i) (h : i < r.length) : i ∉ wayL r (gx r i) := fun hm => by
  have h1 := way_rk R _ (R.pl h0 h) i hm
  rcases R.rng i h0 h with e | ⟨a, b, c⟩
  · omega
  · omega
theorem way_nodup (R : Riv r rk) : ∀ i, Pl r i → (wayL r i).Nodup := by
  refine R.ind (by rw [way_end]; exact List.nodup_nil) fun i h0 h ih => ?_
  rw [way_step R h0 h, List.nodup_cons]
  exact ⟨way_not R h0 h, ih⟩
theorem str_sub {i j : Int} : ∀ y ∈ strL r i j, y ∈ wayL r i := fun y hy => (List.takeWhile_sublist _).subset hy
end
end Wk

set_option Elab.async false
set_option linter.all false
set_option maxRecDepth 100000
set_option maxHeartbeats 4000000
namespace Wk
open PySem PyProof.Rows L2
/-! ### sums over places -/
def sumR (n : Nat) (f : Int → Int) : Int := ((rangeL 0 n).map f).sum
theorem sum_map_add {α : Type} (l : List α) (f g : α → Int) : (l.map fun x => f x + g x).sum = (l.map f).sum + (l.map g).sum := by
  induction l with
  | nil => rfl
  | cons x l ih => simp only [List.map_cons, List.sum_cons, ih]; omega
theorem sum_map_sub {α : Type} (l : List α) (f g : α → Int) : (l.map fun x => f x - g x).sum = (l.map f).sum - (l.map g).sum := by
  induction l with
  | nil => rfl
  | cons x l ih => simp only [List.map_cons, List.sum_cons, ih]; omega
theorem sum_map_zero {α : Type} {l : List α} {f : α → Int} (h : ∀ x ∈ l, f x = 0) : (l.map f).sum = 0 := by
  induction l with
  | nil => rfl
  | cons x l ih =>
    rw [List.map_cons, List.sum_cons, h x (List.mem_cons_self ..), ih fun y hy => h y (List.mem_cons_of_mem _ hy)]
    rfl
theorem sum_map_one {l : List Int} (hn : l.Nodup) {i : Int} (hi : i ∈ l) {f : Int → Int} (h : ∀ x ∈ l, x ≠ i → f x = 0) : (l.map f).sum = f i := by
  induction l with
  | nil => cases hi
  | cons x l ih =>
    rw [List.nodup_cons] at hn
    rw [List.map_cons, List.sum_cons]
    by_cases e : x = i
    · subst e
      rw [sum_map_zero fun y hy => h y (List.mem_cons_of_mem _ hy) fun z => hn.1 (z ▸ hy)]
      omega
    · have hi : i ∈ l := by
        rcases List.mem_cons.mp hi with z | z
        · exact absurd z.symm e
        · exact z
      rw [h x (List.mem_cons_self ..) e, ih hn.2 hi fun y hy => h y (List.mem_cons_of_mem _ hy)]
      omega
theorem sum_congr {α : Type} {l : List α} {f g : α → Int} (h : ∀ x ∈ l, f x = g x) : (l.map f).sum = (l.map g).sum := congrArg List.sum (List.map_congr_left h)
theorem inS_map {r N : List Int} {p : Int} (l : List Int) : inS r N l p = (l.map fun q => if gx r q = p then gx N q else 0).sum := by
  unfold inS
  induction l with
  | nil => rfl
  | cons x l ih =>
    rw [List.filter_cons, List.map_cons, List.sum_cons]
    by_cases h : gx r x = p
    · rw [if_pos (by simpa using h), if_pos h, List.map_cons, List.sum_cons, ih]
    · rw [if_neg (by simpa using h), if_neg h, ih]
      omega
theorem sum_gx (xs : List Int) : sumR xs.length (gx xs) = xs.sum := by
  unfold sumR
  congr 1
  refine ext_gx (by rw [List.length_map, rangeL_length]; omega) fun i h0 h1 => ?_
  rw [List.length_map, rangeL_length] at h1
  rw [gx_map h0 (by rw [rangeL_length]; omega), gx_rangeL h0 (by omega)]
  congr 1
  omega
theorem sum_set : ∀ {xs : List Int} {n : Nat} {a : Int} {b : Int}, xs[n]? = some b → (xs.set n a).sum = xs.sum - b + a
  | [], _, _, _, h => by simp at h
  | x :: xs, 0, a, b, h => by
    have e : x = b := by simpa using h
    subst e
    simp only [List.set_cons_zero, List.sum_cons]
    omega
  | x :: xs, n + 1, a, b, h => by
    have := sum_set (xs := xs) (n := n) (a := a) (b := b) (by simpa using h)
    simp only [List.set_cons_succ, List.sum_cons, this]
    omega
theorem sum_set_gx {xs : List Int} {i a : Int} (h0 : 0 ≤ i) (h : i < xs.length) : (xs.set i.toNat a).sum = xs.sum - gx xs i + a := sum_set (gx_get h0 h)
/-! ### licences -/
abbrev Lic := Int × Int × Int × Int
/-- a licence at a river -/
def LicOk (r : List Int) (o : Lic) : Prop := 0 ≤ o.2.1 ∧ o.2.1 < r.length ∧ (o.2.2.1 = -1 ∨ o.2.2.1 ∈ wayL r o.2.1)
def lstr (r : List Int) (o : Lic) : List Int := strL r o.2.1 o.2.2.1
section
variable {r : List Int} {rk : Int → Int}
theorem str_self {i : Int} : strL r i i = [] := by
  unfold strL wayL
  cases h : r.length with
  | zero => rfl
  | succ n =>
    unfold wayF
    by_cases e : i = -1
    · rw [if_pos e]; rfl
    · rw [if_neg e, List.takeWhile_cons, if_neg (by simp)]
theorem str_step (R : Riv r rk) {i j : Int} (h0 : 0 ≤ i) (h : i < r.length) (e : i ≠ j) : strL r i j = i :: strL r (gx r i) j := by
  unfold strL
  rw [way_step R h0 h, List.takeWhile_cons, if_pos (by simpa using e)]
/-- what a stretch holds comes in from above, or starts, and goes on, or comes back -/
theorem str_flow (R : Riv r rk) (t : Int) {p : Int} (hp : 0 ≤ p) : ∀ i, Pl r i → ∀ j, (j = -1 ∨ j ∈ wayL r i) →
    (if p ∈ strL r i j then t else 0) = sumR r.length (fun q => if gx r q = p then (if q ∈ strL r i j then t else 0) else 0) + (if i = p then t else 0) - (if j = p then t else 0) := by
  refine R.ind (fun j hj => ?_) fun i h0 h ih j hj => ?_
  · have e : strL r (-1) j = [] := by
      unfold strL
      rw [way_end]
      rfl
    have ej : j = -1 := by
      rcases hj with h | h
      · exact h
      · rw [way_end] at h
        cases h
    subst ej
    rw [e, if_neg (by simp), if_neg (by omega)]
    rw [show sumR r.length _ = 0 from sum_map_zero fun q _ => by simp]
    rfl
  · by_cases e : i = j
    · subst e
      rw [str_self, if_neg (by simp), show sumR r.length _ = 0 from sum_map_zero fun q _ => by simp]
      omega
    · have hj' : j = -1 ∨ j ∈ wayL r (gx r i) := by
        rcases hj with h | h
        · exact .inl h
        · rw [way_step R h0 (by omega)] at h
          rcases List.mem_cons.mp h with z | z
          · exact absurd z.symm e
          · exact .inr z
      have ih := ih j hj'
      have hni : i ∉ strL r (gx r i) j := fun z => way_not R h0 h (str_sub _ z)
      rw [str_step R h0 h e]
      have hsum : sumR r.length (fun q => if gx r q = p then (if q ∈ i :: strL r (gx r i) j then t else 0) else 0) =
          sumR r.length (fun q => if gx r q = p then (if q ∈ strL r (gx r i) j then t else 0) else 0) + (if gx r i = p then t else 0) := by
        unfold sumR
        rw [show (if gx r i = p then t else 0) = ((rangeL 0 r.length).map fun q => if q = i then (if gx r i = p then t else 0) else 0).sum from ?_]
        · rw [← sum_map_add]
          refine sum_congr fun q _ => ?_
          by_cases eq : q = i
          · subst eq
            rw [if_pos rfl]
            by_cases e2 : gx r q = p
            · rw [if_pos e2, if_pos e2, if_pos e2, if_pos (List.mem_cons_self ..), if_neg hni]
              omega
            · rw [if_neg e2, if_neg e2, if_neg e2]
              rfl
          · rw [if_neg eq]
            have : (q ∈ i :: strL r (gx r i) j) = (q ∈ strL r (gx r i) j) := by
              simp [eq]
            simp only [this]
            omega
        · rw [sum_map_one (nodup_rangeL _ _) (mem_rangeL.mpr ⟨h0, h⟩) fun x _ hx => if_neg hx, if_pos rfl]
      rw [hsum]
      by_cases ep : p = i
      · subst ep
        rw [if_pos (List.mem_cons_self ..), if_pos rfl]
        rw [if_neg hni] at ih
        omega
      · have : (p ∈ i :: strL r (gx r i) j) = (p ∈ strL r (gx r i) j) := by simp [ep]
        simp only [this]
        rw [if_neg (show ¬i = p from fun z => ep z.symm)]
        omega
/-- the drops that some hold at a reach -/
def hS (r : List Int) (p : Int) (zs : List (Lic × Int)) : Int := (zs.map fun z => if p ∈ lstr r z.1 then z.2 else 0).sum
def stS (p : Int) (zs : List (Lic × Int)) : Int := (zs.map fun z => if z.1.2.1 = p then z.2 else 0).sum
def bkS (p : Int) (zs : List (Lic × Int)) : Int := (zs.map fun z => if z.1.2.2.1 = p then z.2 else 0).sum
theorem hS_flow (R : Riv r rk) {p : Int} (hp : 0 ≤ p) : ∀ zs : List (Lic × Int), (∀ z ∈ zs, LicOk r z.1) →
    hS r p zs = sumR r.length (fun q => if gx r q = p then hS r q zs else 0) + stS p zs - bkS p zs
  | [], _ => by
    rw [show sumR r.length _ = 0 from sum_map_zero fun q _ => by simp [hS]]
    rfl
  | z :: zs, h => by
    have ih := hS_flow R hp zs fun y hy => h y (List.mem_cons_of_mem _ hy)
    obtain ⟨a, b, c⟩ := h z (List.mem_cons_self ..)
    have h1 := str_flow R z.2 hp z.1.2.1 (.inr ⟨a, b⟩) z.1.2.2.1 c
    have h2 : sumR r.length (fun q => if gx r q = p then hS r q (z :: zs) else 0) = sumR r.length (fun q => if gx r q = p then (if q ∈ strL r z.1.2.1 z.1.2.2.1 then z.2 else 0) else 0) + sumR r.length (fun q => if gx r q = p then hS r q zs else 0) := by
      unfold sumR
      rw [← sum_map_add]
      refine sum_congr fun q _ => ?_
      by_cases e : gx r q = p
      · rw [if_pos e, if_pos e, if_pos e]
        unfold hS lstr
        rw [List.map_cons, List.sum_cons]
      · rw [if_neg e, if_neg e, if_neg e]
        rfl
    rw [h2]
    unfold stS bkS at ih ⊢
    unfold hS lstr at ih ⊢
    simp only [List.map_cons, List.sum_cons]
    omega
end
end Wk

set_option Elab.async false
set_option linter.all false
set_option maxRecDepth 100000
set_option maxHeartbeats 4000000
namespace Wk
open PySem PyProof.Rows L2
/-! ### what rises above a reach -/
/-- what rises at the reaches whose way meets p -/
def upS (r s : List Int) (p : Int) : Int := sumR r.length fun q => if p ∈ wayL r q then gx s q else 0
section
variable {r : List Int} {rk : Int → Int}
theorem sumR_congr {n : Nat} {f g : Int → Int} (h : ∀ q : Int, 0 ≤ q → q < n → f q = g q) : sumR n f = sumR n g := sum_congr fun q hq => by
  have := mem_rangeL.mp hq
  exact h q this.1 this.2
theorem sumR_add {n : Nat} {f g : Int → Int} : sumR n (fun q => f q + g q) = sumR n f + sumR n g := sum_map_add _ f g
theorem sumR_sub {n : Nat} {f g : Int → Int} : sumR n (fun q => f q - g q) = sumR n f - sumR n g := sum_map_sub _ f g
theorem sumR_one {n : Nat} {f : Int → Int} {i : Int} (h0 : 0 ≤ i) (h1 : i < n) (h : ∀ q : Int, 0 ≤ q → q < n → q ≠ i → f q = 0) : sumR n f = f i := sum_map_one (nodup_rangeL _ _) (mem_rangeL.mpr ⟨h0, h1⟩) fun x hx hn => by
  have := mem_rangeL.mp hx
  exact h x this.1 this.2 hn
theorem sumR_zero {n : Nat} {f : Int → Int} (h : ∀ q : Int, 0 ≤ q → q < n → f q = 0) : sumR n f = 0 := sum_map_zero fun x hx => by
  have := mem_rangeL.mp hx
  exact h x this.1 this.2
theorem sum_sum_comm {α β : Type} (l : List α) (m : List β) (f : α → β → Int) : (l.map fun x => (m.map (f x)).sum).sum = (m.map fun y => (l.map fun x => f x y).sum).sum := by
  induction l with
  | nil => simp; exact (sum_map_zero fun _ _ => rfl).symm
  | cons a l ih =>
    simp only [List.map_cons, List.sum_cons]
    rw [ih, ← sum_map_add]
theorem inS_sumR {N : List Int} {p : Int} : inS r N (rangeL 0 r.length) p = sumR r.length fun q => if gx r q = p then gx N q else 0 := inS_map _
theorem upS_step (R : Riv r rk) {s : List Int} {p : Int} (h0 : 0 ≤ p) (h1 : p < r.length) : upS r s p = gx s p + sumR r.length fun u => if gx r u = p then upS r s u else 0 := by
  have e1 : ∀ q : Int, 0 ≤ q → q < r.length → (if p ∈ wayL r q then gx s q else 0) = (sumR r.length fun u => if gx r u = p then (if u ∈ wayL r q then gx s q else 0) else 0) + (if q = p then gx s q else 0) := fun q q0 q1 => by
    have := str_flow R (gx s q) h0 q (.inr ⟨q0, q1⟩) (-1) (.inl rfl)
    rw [str_end R (.inr ⟨q0, q1⟩), if_neg (show ¬(-1 : Int) = p by omega)] at this
    omega
  unfold upS
  rw [sumR_congr e1, sumR_add, sumR_one (i := p) h0 h1 fun q _ _ hq => if_neg hq, if_pos rfl]
  have e2 : (sumR r.length fun q => sumR r.length fun u => if gx r u = p then (if u ∈ wayL r q then gx s q else 0) else 0) = sumR r.length fun u => if gx r u = p then sumR r.length (fun q => if u ∈ wayL r q then gx s q else 0) else 0 := by
    unfold sumR
    rw [sum_sum_comm]
    refine sum_congr fun u _ => ?_
    by_cases e : gx r u = p
    · simp only [if_pos e]
    · simp only [if_neg e]
      exact sum_map_zero fun _ _ => rfl
  rw [e2]
  omega
/-- what flows in from above, and nothing else, is nothing -/
theorem flow_zero (R : Riv r rk) {D : Int → Int} (h : ∀ p : Int, 0 ≤ p → p < r.length → D p = sumR r.length fun u => if gx r u = p then D u else 0) : ∀ p : Int, 0 ≤ p → p < r.length → D p = 0 := by
  have key : ∀ (n : Nat) (p : Int), 0 ≤ p → p < r.length → (r.length : Int) - rk p ≤ n → D p = 0 := by
    intro n
    induction n with
    | zero =>
      intro p h0 h1 hr
      have := (R.rk0 p h0 h1).2
      omega
    | succ n ih =>
      intro p h0 h1 hr
      rw [h p h0 h1]
      refine sumR_zero fun u u0 u1 => ?_
      split
      · rename_i e
        refine ih u u0 u1 ?_
        rcases R.rng u u0 u1 with z | ⟨_, _, z⟩
        · omega
        · rw [e] at z
          omega
      · rfl
  exact fun p h0 h1 => key ((r.length : Int) - rk p).toNat p h0 h1 (by omega)
/-- the flow that meets at each reach -/
theorem flow_uniq (R : Riv r rk) {N M g : Int → Int} (hN : ∀ p : Int, 0 ≤ p → p < r.length → N p = g p + sumR r.length fun u => if gx r u = p then N u else 0) (hM : ∀ p : Int, 0 ≤ p → p < r.length → M p = g p + sumR r.length fun u => if gx r u = p then M u else 0) : ∀ p : Int, 0 ≤ p → p < r.length → N p = M p := fun p h0 h1 => by
  have := flow_zero R (D := fun p => N p - M p) (fun p h0 h1 => by
    have e : (sumR r.length fun u => if gx r u = p then N u - M u else 0) = (sumR r.length fun u => if gx r u = p then N u else 0) - sumR r.length fun u => if gx r u = p then M u else 0 := by
      rw [← sumR_sub]
      refine sumR_congr fun q _ _ => ?_
      split <;> omega
    rw [e, hN p h0 h1, hM p h0 h1]
    omega) p h0 h1
  have this : N p - M p = 0 := this
  omega
theorem nat_up (R : Riv r rk) {s N : List Int} (hN : ∀ p : Int, 0 ≤ p → p < r.length → gx N p = gx s p + inS r N (rangeL 0 r.length) p) : ∀ p : Int, 0 ≤ p → p < r.length → gx N p = upS r s p :=
  flow_uniq R (g := gx s) (fun p h0 h1 => by rw [hN p h0 h1, inS_sumR]) fun p h0 h1 => upS_step R h0 h1
end
/-! ### drops in order -/
abbrev Drop := Int × Int × Int
/-- one drop ahead of another one -/
def dlt (a b : Drop) : Prop := a.1 < b.1 ∨ (a.1 = b.1 ∧ (a.2.1 < b.2.1 ∨ (a.2.1 = b.2.1 ∧ a.2.2 < b.2.2)))
instance (a b : Drop) : Decidable (dlt a b) := inferInstanceAs (Decidable (_ ∨ _))
def dle (a b : Drop) : Prop := ¬ dlt b a
theorem dlt_trans {a b c : Drop} (h : dlt a b) (k : dlt b c) : dlt a c := by unfold dlt at *; omega
theorem dle_lt {a b c : Drop} (h : dle a b) (k : dlt b c) : dlt a c := by unfold dle dlt at *; omega
theorem dle_refl (a : Drop) : dle a a := by unfold dle dlt; omega
theorem dle_of_lt {a b : Drop} (h : dlt a b) : dle a b := by unfold dle dlt at *; omega
theorem dle_trans {a b c : Drop} (h : dle a b) (k : dle b c) : dle a c := by unfold dle dlt at *; omega
/-- who holds drops at a reach -/
def Qual (r : List Int) (roll : List Lic) (takes : List Int) (p k : Int) : Prop := 0 ≤ k ∧ k < roll.length ∧ 0 < gx takes k ∧ p ∈ lstr r (gx roll k)
def trp (roll : List Lic) (takes : List Int) (k : Int) : Drop := ((gx roll k).1, gx takes k, k)
/-- the last drop held at a reach -/
def LastOk (r : List Int) (roll : List Lic) (takes : List Int) (p : Int) : Option Drop → Prop
  | none => ∀ k, ¬ Qual r roll takes p k
  | some m => (∃ k, Qual r roll takes p k ∧ m = trp roll takes k) ∧ ∀ k, Qual r roll takes p k → dle (trp roll takes k) m
/-- the last drop, if any, comes ahead -/
def ahd (o : Option Drop) (d : Drop) : Prop := match o with
  | none => True
  | some m => dlt m d
instance (o : Option Drop) (d : Drop) : Decidable (ahd o d) := match o with
  | none => isTrue trivial
  | some m => inferInstanceAs (Decidable (dlt m d))
/-- all that is held at a reach comes ahead of a drop -/
def Ahd (r : List Int) (roll : List Lic) (takes : List Int) (p : Int) (d : Drop) : Prop := ∀ k, Qual r roll takes p k → dlt (trp roll takes k) d
noncomputable instance (r : List Int) (roll : List Lic) (takes : List Int) (p : Int) (d : Drop) : Decidable (Ahd r roll takes p d) := Classical.propDecidable _
/-- all that is held comes ahead of a drop -/
theorem last_ahead {r : List Int} {roll : List Lic} {takes : List Int} {p : Int} {o : Option Drop} {d : Drop} (h : LastOk r roll takes p o) : ahd o d ↔ Ahd r roll takes p d := by
  cases o with
  | none => exact ⟨fun _ k hk => absurd hk (h k), fun _ => trivial⟩
  | some m =>
    obtain ⟨⟨k, hk, e⟩, h2⟩ := h
    exact ⟨fun hm j hj => dle_lt (h2 j hj) hm, fun hm => e ▸ hm k hk⟩
/-! ### walks with sums, walks with tests -/
theorem addG {f : Int → List Int → Res (List Int)} (t : Int) (hf : ∀ (y : Int) (s : List Int), 0 ≤ y → y < s.length → f y s = .ok (s.set y.toNat (gx s y + t))) : ∀ {l W : List Int}, l.Nodup → (∀ q ∈ l, 0 ≤ q ∧ q < W.length) → Ok (foldM l W f) fun W' => W'.length = W.length ∧ ∀ p : Int, 0 ≤ p → gx W' p = gx W p + if p ∈ l then t else 0
  | [], W, _, _ => ⟨rfl, fun p _ => by rw [if_neg (by simp)]; omega⟩
  | q :: l, W, hn, hl => by
    rw [List.nodup_cons] at hn
    obtain ⟨q0, q1⟩ := hl q (List.mem_cons_self ..)
    show Ok ((f q W).bi _) _
    rw [hf q W q0 q1, okb]
    have hset : (W.set q.toNat (gx W q + t)).length = W.length := List.length_set ..
    refine Ok.imp (addG t hf hn.2 fun y hy => by rw [hset]; exact hl y (List.mem_cons_of_mem _ hy)) fun W' hW => ⟨hW.1.trans hset, fun p h0 => ?_⟩
    rw [hW.2 p h0, gx_set q0 h0 q1]
    by_cases e : p = q
    · subst e
      rw [if_pos rfl, if_neg hn.1, if_pos (List.mem_cons_self ..)]
      omega
    · rw [if_neg e]
      have : (p ∈ q :: l) = (p ∈ l) := by simp [e]
      simp only [this]
theorem loopC_all2 {α : Type} {l : List α} {P : α → Bool} {B : α → Unit → (Unit → Res Bool) → Res Bool} {k : Unit → Res Bool} (h : ∀ y ∈ l, ∀ next, B y () next = if P y then next () else .ok false) : loopC l () B k = if l.all P then k () else .ok false := by
  induction l with
  | nil => rfl
  | cons x r ih =>
    show B x () _ = _
    rw [h x (List.mem_cons_self ..), List.all_cons]
    cases e : P x with
    | false => rfl
    | true =>
      rw [if_pos rfl, Bool.true_and]
      exact ih fun y hy => h y (List.mem_cons_of_mem _ hy)
/-- .. where each turn goes on -/
theorem loopC_true {α : Type} {l : List α} {B : α → Unit → (Unit → Res Bool) → Res Bool} {k : Unit → Res Bool} (h : ∀ y ∈ l, ∀ next, B y () next = next ()) : loopC l () B k = k () := by
  induction l with
  | nil => rfl
  | cons x r ih =>
    show B x () _ = _
    rw [h x (List.mem_cons_self ..)]
    exact ih fun y hy => h y (List.mem_cons_of_mem _ hy)
theorem enum_mem {α : Type} [Inhabited α] {xs : List α} {y : Int × α} (h : y ∈ enumL xs) : 0 ≤ y.1 ∧ y.1 < xs.length ∧ y.2 = gx xs y.1 := by
  obtain ⟨i, hi⟩ := List.mem_iff_getElem?.mp h
  obtain ⟨h1, h2⟩ := enumL_get hi
  have := getElem?_some_of h2
  exact ⟨by omega, by omega, by rw [h1]; exact (gx_nat h2).symm⟩
theorem mem_enum {α : Type} [Inhabited α] {xs : List α} {k : Int} (h0 : 0 ≤ k) (h1 : k < xs.length) : (k, gx xs k) ∈ enumL xs := by
  have h := gx_get h0 h1
  unfold enumL
  rw [List.mem_map]
  refine ⟨(gx xs k, k.toNat), ?_, by simp; omega⟩
  rw [List.mem_iff_getElem?]
  refine ⟨k.toNat, ?_⟩
  rw [List.getElem?_zipIdx, h]
  simp
theorem sumR_succ {n : Nat} {f : Int → Int} : sumR (n + 1) f = sumR n f + f n := by
  unfold sumR
  have := rangeL_snoc n
  rw [show (((n + 1 : Nat)) : Int) = (n : Int) + 1 by omega, this, List.map_append, List.sum_append]
  simp
end Wk

set_option Elab.async false
set_option linter.all false
set_option maxRecDepth 100000
set_option maxHeartbeats 4000000
namespace Wk
open PySem PyProof.Rows L2
/-! ### what is held, by numbers -/
def hR (r : List Int) (roll : List Lic) (t : List Int) (p : Int) : Int := sumR roll.length fun k => if p ∈ lstr r (gx roll k) then gx t k else 0
theorem hR_set {r : List Int} {roll : List Lic} {t : List Int} (hl : t.length = roll.length) {k v : Int} (k0 : 0 ≤ k) (k1 : k < roll.length) (p : Int) : hR r roll (t.set k.toNat v) p = hR r roll t p + if p ∈ lstr r (gx roll k) then v - gx t k else 0 := by
  unfold hR
  have e : ∀ j : Int, 0 ≤ j → j < roll.length → (if p ∈ lstr r (gx roll j) then gx (t.set k.toNat v) j else 0) = (if p ∈ lstr r (gx roll j) then gx t j else 0) + (if j = k then (if p ∈ lstr r (gx roll k) then v - gx t k else 0) else 0) := fun j j0 j1 => by
    rw [gx_set k0 j0 (by omega)]
    by_cases ej : j = k
    · rw [if_pos ej, if_pos ej, ej]
      split <;> omega
    · rw [if_neg ej, if_neg ej]
      omega
  rw [sumR_congr e, sumR_add, sumR_one (i := k) k0 k1 fun q _ _ hq => if_neg hq, if_pos rfl]
theorem zip_gx {α β : Type} [Inhabited α] [Inhabited β] {xs : List α} {ys : List β} {i : Int} (h0 : 0 ≤ i) (h1 : i < xs.length) (h2 : i < ys.length) : gx (xs.zip ys) i = (gx xs i, gx ys i) := by
  have a := gx_get h0 h1
  have b := gx_get h0 h2
  have c : (xs.zip ys)[i.toNat]? = some (gx xs i, gx ys i) := by
    rw [List.getElem?_zip_eq_some]
    exact ⟨a, b⟩
  have d := gx_get (xs := xs.zip ys) h0 (by rw [List.length_zip]; omega)
  rw [c] at d
  exact (Option.some.inj d).symm
theorem map_range_gx {α : Type} [Inhabited α] (xs : List α) : (rangeL 0 xs.length).map (gx xs) = xs := by
  have hl : ((rangeL 0 (xs.length : Int)).map (gx xs)).length = xs.length := by
    rw [List.length_map, rangeL_length]; omega
  refine ext_gx hl fun i h0 h1 => ?_
  rw [hl] at h1
  rw [gx_map h0 (by rw [rangeL_length]; omega), gx_rangeL h0 (by omega), Int.zero_add]
theorem hS_hR {r : List Int} {roll : List Lic} {t : List Int} (hl : t.length = roll.length) (p : Int) : hS r p (roll.zip t) = hR r roll t p := by
  unfold hS hR sumR
  have e := map_range_gx (roll.zip t)
  rw [← e, List.map_map]
  have hz : (roll.zip t).length = roll.length := by rw [List.length_zip]; omega
  rw [hz]
  refine sum_congr fun k hk => ?_
  have hk := mem_rangeL.mp hk
  show (if p ∈ lstr r (gx (roll.zip t) k).1 then (gx (roll.zip t) k).2 else 0) = _
  rw [zip_gx hk.1 hk.2 (by omega)]
theorem sumR_nonneg {n : Nat} {f : Int → Int} (h : ∀ q : Int, 0 ≤ q → q < n → 0 ≤ f q) : 0 ≤ sumR n f := by
  induction n with
  | zero => exact Int.le_refl _
  | succ n ih =>
    rw [sumR_succ]
    have h1 := ih fun q h0 h1 => h q h0 (by omega)
    have h2 := h n (by omega) (by omega)
    omega
theorem sumR_le {n : Nat} {f g : Int → Int} (h : ∀ q : Int, 0 ≤ q → q < n → f q ≤ g q) : sumR n f ≤ sumR n g := by
  have := sumR_nonneg (n := n) (f := fun q => g q - f q) fun q h0 h1 => by have := h q h0 h1; omega
  rw [sumR_sub] at this
  omega
theorem sumR_ge_one {n : Nat} {f : Int → Int} {i : Int} (h0 : 0 ≤ i) (h1 : i < n) (h : ∀ q : Int, 0 ≤ q → q < n → 0 ≤ f q) : f i ≤ sumR n f := by
  have e : sumR n (fun q => if q = i then f i else 0) = f i := by rw [sumR_one (i := i) h0 h1 fun q _ _ hq => if_neg hq, if_pos rfl]
  have := sumR_le (n := n) (f := fun q => if q = i then f i else 0) (g := f) fun q q0 q1 => by
    split
    · rename_i e; rw [e]; exact Int.le_refl _
    · exact h q q0 q1
  omega
theorem upS_nonneg {r s : List Int} (h : ∀ q : Int, 0 ≤ q → q < r.length → 0 ≤ gx s q) (p : Int) : 0 ≤ upS r s p := sumR_nonneg fun q h0 h1 => by
  split
  · exact h q h0 h1
  · exact Int.le_refl _
/-- a dealing -/
structure Dealt (r s : List Int) (roll : List Lic) (w t : List Int) : Prop where
  len : t.length = roll.length
  bd : ∀ k : Int, 0 ≤ k → k < roll.length → 0 ≤ gx t k ∧ gx t k ≤ gx w k
  fit : ∀ p : Int, 0 ≤ p → p < r.length → hR r roll t p ≤ upS r s p
  sh : ∀ k : Int, 0 ≤ k → k < roll.length → gx t k = gx w k ∨ ∃ p ∈ lstr r (gx roll k), hR r roll t p = upS r s p ∧ Ahd r roll t p ((gx roll k).1, gx t k + 1, k)
/-! ### the numbers by days -/
def dayOf (roll : List Lic) (k : Int) : Int := (gx roll k).1
def rankedL (roll : List Lic) : List Int := ((((enumL roll).map fun (y1 : Int × Lic) => (y1.2.1, y1.1)).mergeSort leP).map fun y3 => y3.2)
theorem enum_fst {α : Type} (xs : List α) : (enumL xs).map (·.1) = rangeL 0 xs.length := by
  refine ext_gx (by rw [List.length_map, enumL_length, rangeL_length]; omega) fun i h0 h1 => ?_
  rw [List.length_map, enumL_length] at h1
  have hl : (i.toNat) < (enumL xs).length := by rw [enumL_length]; omega
  have hg : (enumL xs)[i.toNat]? = some ((enumL xs)[i.toNat]) := List.getElem?_eq_getElem hl
  have h2 := (enumL_get hg).1
  rw [gx_rangeL h0 (by omega)]
  have : ((enumL xs).map (·.1))[i.toNat]? = some (((enumL xs)[i.toNat]).1) := by rw [List.getElem?_map, hg]; rfl
  have h3 := gx_get (xs := (enumL xs).map (·.1)) h0 (by rw [List.length_map, enumL_length]; exact h1)
  rw [this] at h3
  rw [← Option.some.inj h3, h2]
  omega
theorem ranked_perm (roll : List Lic) : (rankedL roll).Perm (rangeL 0 roll.length) := by
  unfold rankedL
  refine ((sort_pair _).1.map _).trans ?_
  rw [List.map_map]
  rw [← enum_fst roll]
  exact List.Perm.refl _
theorem ranked_nodup (roll : List Lic) : (rankedL roll).Nodup := (ranked_perm roll).nodup_iff.mpr (nodup_rangeL _ _)
theorem ranked_mem {roll : List Lic} {k : Int} : k ∈ rankedL roll ↔ 0 ≤ k ∧ k < roll.length := by rw [(ranked_perm roll).mem_iff, mem_rangeL]
theorem ranked_sorted (roll : List Lic) : (rankedL roll).Pairwise fun a b => dayOf roll a < dayOf roll b ∨ (dayOf roll a = dayOf roll b ∧ a < b) := by
  have h0 : (rankedL roll).Pairwise fun a b => dayOf roll a < dayOf roll b ∨ (dayOf roll a = dayOf roll b ∧ a ≤ b) := by
    unfold rankedL
    rw [List.pairwise_map]
    have h1 := (sort_pair ((enumL roll).map fun (y1 : Int × Lic) => (y1.2.1, y1.1))).2
    have h2 : ∀ x ∈ ((enumL roll).map fun (y1 : Int × Lic) => (y1.2.1, y1.1)).mergeSort leP, x.1 = dayOf roll x.2 := fun x hx => by
      rw [(sort_pair _).1.mem_iff, List.mem_map] at hx
      obtain ⟨y, hy, rfl⟩ := hx
      obtain ⟨a, b, c⟩ := enum_mem hy
      show y.2.1 = (gx roll y.1).1
      rw [c]
    refine h1.imp_of_mem fun {a b} ha hb h => ?_
    have ea := h2 a ha
    have eb := h2 b hb
    unfold leP at h
    simp only [Bool.or_eq_true, Bool.and_eq_true, decide_eq_true_eq] at h
    omega
  have h1 := ranked_nodup roll
  refine List.Pairwise.imp₂ (fun a b (x : dayOf roll a < dayOf roll b ∨ (dayOf roll a = dayOf roll b ∧ a ≤ b)) (y : a ≠ b) => ?_) h0 h1
  omega
/-- the groups, day by day -/
structure GroupsOk (roll : List Lic) (gs : List (List Int)) : Prop where
  flat : gs.flatten = rankedL roll
  ne : ∀ g ∈ gs, g ≠ []
  same : ∀ g ∈ gs, ∀ a ∈ g, ∀ b ∈ g, dayOf roll a = dayOf roll b
  inc : gs.Pairwise fun g g' => ∀ a ∈ g, ∀ b ∈ g', dayOf roll a < dayOf roll b
theorem geti_last {α : Type} [Inhabited α] {ys : List α} {z : α} : geti (ys ++ [z]) (-1) = .ok z := by
  rw [geti_neg (by decide) (by rw [List.length_append, List.length_singleton]; omega)]
  congr 1
  rw [List.length_append, List.length_singleton]
  have e : (-1 : Int) + ((ys.length + 1 : Nat) : Int) = (ys.length : Int) := by omega
  rw [e, gx_append (by omega), if_neg (by omega), Int.sub_self]
  rfl
theorem seti_last {α : Type} {ys : List α} {z w : α} : seti (ys ++ [z]) (-1) w = .ok (ys ++ [w]) := by
  unfold seti
  rw [ixN_neg (by decide) (by rw [List.length_append, List.length_singleton]; omega)]
  have e : ((-1 : Int) + ((ys ++ [z]).length : Int)).toNat = ys.length := by
    rw [List.length_append, List.length_singleton]
    omega
  show Res.ok ((ys ++ [z]).set ((-1 : Int) + ((ys ++ [z]).length : Int)).toNat w) = _
  rw [e, List.set_append_right _ _ (Nat.le_refl _), Nat.sub_self]
  rfl
end Wk

set_option Elab.async false
set_option linter.all false
set_option maxRecDepth 100000
set_option maxHeartbeats 4000000
namespace Wk
open PySem PyProof.Rows L2
/-! ### what a dealing is known by -/
theorem sumR_lt {n : Nat} {f g : Int → Int} {k : Int} (k0 : 0 ≤ k) (k1 : k < n) (h : ∀ q : Int, 0 ≤ q → q < n → f q ≤ g q) (hk : f k < g k) : sumR n f < sumR n g := by
  have h1 := sumR_ge_one (n := n) (f := fun q => g q - f q) (i := k) k0 k1 fun q a b => by have := h q a b; omega
  rw [sumR_sub] at h1
  have h1 : g k - f k ≤ sumR n g - sumR n f := h1
  omega
theorem hR_one {r : List Int} {roll : List Lic} {t : List Int} {a : Int} (a0 : 0 ≤ a) (a1 : a < roll.length) (h : ∀ k : Int, 0 ≤ k → k < roll.length → k ≠ a → gx t k = 0) (p : Int) : hR r roll t p = if p ∈ lstr r (gx roll a) then gx t a else 0 := by
  unfold hR
  exact sumR_one (f := fun k => if p ∈ lstr r (gx roll k) then gx t k else 0) (i := a) a0 a1 fun q q0 q1 hq => by
    show (if p ∈ lstr r (gx roll q) then gx t q else 0) = 0
    rw [h q q0 q1 hq]
    split <;> rfl
/-- a share of a dealing: what holds of those filed up to a day -/
structure Part (r s : List Int) (roll : List Lic) (w t : List Int) (last : Int) : Prop where
  len : t.length = roll.length
  nn : ∀ k : Int, 0 ≤ k → k < roll.length → 0 ≤ gx t k
  bd : ∀ k : Int, 0 ≤ k → k < roll.length → dayOf roll k ≤ last → gx t k ≤ gx w k
  fit : ∀ p : Int, 0 ≤ p → p < r.length → hR r roll t p ≤ upS r s p
  sh : ∀ k : Int, 0 ≤ k → k < roll.length → dayOf roll k ≤ last → gx t k = gx w k ∨ ∃ p ∈ lstr r (gx roll k), hR r roll t p = upS r s p ∧ Ahd r roll t p ((gx roll k).1, gx t k + 1, k)
theorem Dealt.part {r s : List Int} {roll : List Lic} {w t : List Int} (D : Dealt r s roll w t) (last : Int) : Part r s roll w t last :=
  ⟨D.len, fun k a b => (D.bd k a b).1, fun k a b _ => (D.bd k a b).2, D.fit, fun k a b _ => D.sh k a b⟩
theorem more_first {r s : List Int} {roll : List Lic} {w t u : List Int} {last : Int} (D : Part r s roll w t last) (hp : ∀ o ∈ roll, ∀ q ∈ lstr r o, 0 ≤ q ∧ q < r.length) (un : ∀ k : Int, 0 ≤ k → k < roll.length → 0 ≤ gx u k) (uf : ∀ p : Int, 0 ≤ p → p < r.length → hR r roll u p ≤ upS r s p) {k : Int} (k0 : 0 ≤ k) (k1 : k < roll.length) (ke : dayOf roll k ≤ last) (hk : gx t k < gx u k) (hw : gx u k ≤ gx w k) :
    ∃ j : Int, 0 ≤ j ∧ j < roll.length ∧ gx u j < gx t j ∧ dlt (dayOf roll j, gx t j, j) (dayOf roll k, gx t k + 1, k) := by
  rcases D.sh k k0 k1 ke with h | ⟨p, hpk, e, A⟩
  · omega
  · refine Classical.byContradiction fun hno => ?_
    have hpb := hp _ (gx_mem k0 k1) p hpk
    have hlt : hR r roll t p < hR r roll u p := by
      unfold hR
      refine sumR_lt (k := k) k0 k1 (fun q q0 q1 => ?_) ?_
      · show (if p ∈ lstr r (gx roll q) then gx t q else 0) ≤ if p ∈ lstr r (gx roll q) then gx u q else 0
        by_cases hq : p ∈ lstr r (gx roll q)
        · rw [if_pos hq, if_pos hq]
          refine Classical.byContradiction fun hle => hno ⟨q, q0, q1, by omega, A q ⟨q0, q1, ?_, hq⟩⟩
          have := un q q0 q1
          omega
        · rw [if_neg hq, if_neg hq]
          exact Int.le_refl _
      · show (if p ∈ lstr r (gx roll k) then gx t k else 0) < if p ∈ lstr r (gx roll k) then gx u k else 0
        rw [if_pos hpk, if_pos hpk]
        exact hk
    have := uf p hpb.1 hpb.2
    omega
theorem first_of {n : Nat} (P : Int → Prop) (d : Int → Drop) (h : ∃ k : Int, 0 ≤ k ∧ k < n ∧ P k) : ∃ k : Int, 0 ≤ k ∧ k < n ∧ P k ∧ ∀ j : Int, 0 ≤ j → j < n → P j → dle (d k) (d j) := by
  induction n with
  | zero =>
    obtain ⟨k, a, b, _⟩ := h
    omega
  | succ n ih =>
    by_cases h2 : ∃ k : Int, 0 ≤ k ∧ k < n ∧ P k
    · obtain ⟨k, k0, k1, kp, km⟩ := ih h2
      by_cases h3 : P n ∧ dlt (d n) (d k)
      · refine ⟨n, by omega, by omega, h3.1, fun j j0 j1 jp => ?_⟩
        by_cases e : j = (n : Int)
        · rw [e]; exact dle_refl _
        · exact dle_trans (dle_of_lt h3.2) (km j j0 (by omega) jp)
      · refine ⟨k, k0, by omega, kp, fun j j0 j1 jp => ?_⟩
        by_cases e : j = (n : Int)
        · rw [e] at jp ⊢
          exact fun z => h3 ⟨jp, z⟩
        · exact km j j0 (by omega) jp
    · obtain ⟨k, a, b, c⟩ := h
      have e : k = (n : Int) := Classical.byContradiction fun e => h2 ⟨k, a, by omega, c⟩
      rw [e] at c
      refine ⟨n, by omega, by omega, c, fun j j0 j1 jp => ?_⟩
      have e2 : j = (n : Int) := Classical.byContradiction fun e2 => h2 ⟨j, j0, by omega, jp⟩
      rw [e2]
      exact dle_refl _
/-- what those filed up to a day get hangs on their wants alone -/
theorem part_uniq {r s : List Int} {roll : List Lic} {w w' t u : List Int} {last : Int} (D : Part r s roll w t last) (E : Part r s roll w' u last) (hp : ∀ o ∈ roll, ∀ q ∈ lstr r o, 0 ≤ q ∧ q < r.length) (hw : ∀ k : Int, 0 ≤ k → k < roll.length → dayOf roll k ≤ last → gx w k = gx w' k) : ∀ k : Int, 0 ≤ k → k < roll.length → dayOf roll k ≤ last → gx t k = gx u k := by
  refine fun k k0 k1 ke => Classical.byContradiction fun hne => ?_
  obtain ⟨m, m0, m1, ⟨m2, m3⟩, m4⟩ := first_of (n := roll.length) (fun j => dayOf roll j ≤ last ∧ gx t j ≠ gx u j) (fun j => (dayOf roll j, min (gx t j) (gx u j) + 1, j)) ⟨k, k0, k1, ke, hne⟩
  have hww := hw m m0 m1 m2
  have b1 := D.bd m m0 m1 m2
  have b2 := E.bd m m0 m1 m2
  rcases Int.lt_or_gt_of_ne m3 with h | h
  · obtain ⟨j, j0, j1, j2, j3⟩ := more_first D hp E.nn E.fit m0 m1 m2 h (by omega)
    have hj : dayOf roll j ≤ last := by unfold dlt at j3; omega
    have := m4 j j0 j1 ⟨hj, by omega⟩
    simp only [dle, dlt] at this j3
    omega
  · obtain ⟨j, j0, j1, j2, j3⟩ := more_first E hp D.nn D.fit m0 m1 m2 h (by omega)
    have hj : dayOf roll j ≤ last := by unfold dlt at j3; omega
    have := m4 j j0 j1 ⟨hj, by omega⟩
    simp only [dle, dlt] at this j3
    omega
theorem sum_filter {l : List Int} {b : Int → Bool} {f : Int → Int} (h : ∀ k ∈ l, b k = false → f k = 0) : (l.map f).sum = ((l.filter b).map f).sum := by
  induction l with
  | nil => rfl
  | cons x l ih =>
    have := ih fun k hk => h k (List.mem_cons_of_mem _ hk)
    cases e : b x with
    | true => rw [List.filter_cons, if_pos e, List.map_cons, List.map_cons, List.sum_cons, List.sum_cons, this]
    | false => rw [List.filter_cons, if_neg (by simp [e]), List.map_cons, List.sum_cons, this, h x (List.mem_cons_self ..) e, Int.zero_add]
theorem sum_map_gx {l : List Int} {f : Int → Int} : (l.map f).sum = sumR l.length fun i => f (gx l i) := by
  unfold sumR
  conv => lhs; rw [← map_range_gx l]
  rw [List.map_map]
  rfl
end Wk

set_option Elab.async false
set_option linter.all false
set_option maxRecDepth 100000
set_option maxHeartbeats 4000000
namespace Wk
open PySem PyProof.Rows L2
/-! ### a roll of some of the licences -/
theorem pair_gx {l : List Int} (h : l.Pairwise (· < ·)) {i j : Int} (i0 : 0 ≤ i) (ij : i < j) (jl : j < l.length) : gx l i < gx l j := by
  have hi : i.toNat < l.length := by omega
  have hj : j.toNat < l.length := by omega
  have h1 := (List.pairwise_iff_getElem.mp h) i.toNat j.toNat hi hj (by omega)
  have a := gx_get i0 (by omega : i < (l.length : Int))
  have b := gx_get (by omega : 0 ≤ j) jl
  rw [List.getElem?_eq_getElem hi] at a
  rw [List.getElem?_eq_getElem hj] at b
  rw [Option.some.inj a, Option.some.inj b] at h1
  exact h1
theorem rangeL_lt (a b : Int) : (rangeL a b).Pairwise (· < ·) := by
  refine List.Pairwise.imp₂ (fun x y (h : x ≤ y) (k : x ≠ y) => ?_) (rangeL_sorted a b) (nodup_rangeL a b)
  omega
theorem few_part {r s : List Int} {roll : List Lic} {w w' t3 : List Int} {last : Int} {b : Int → Bool} {el : List Int} (hel : el = (rangeL 0 roll.length).filter b) (hb : ∀ k : Int, 0 ≤ k → k < roll.length → (b k = true ↔ dayOf roll k ≤ last)) (D : Dealt r s (el.map (gx roll)) w' t3) (hw : ∀ i : Int, 0 ≤ i → i < el.length → gx w' i = gx w (gx el i)) :
    ∃ u, Part r s roll w u last ∧ ∀ i : Int, 0 ≤ i → i < el.length → gx u (gx el i) = gx t3 i := by
  have hlt : el.Pairwise (· < ·) := by rw [hel]; exact List.Pairwise.filter _ (rangeL_lt _ _)
  have hnd : el.Nodup := hlt.imp fun h => Int.ne_of_lt h
  have hmem : ∀ k, k ∈ el ↔ (0 ≤ k ∧ k < roll.length) ∧ b k = true := fun k => by rw [hel, List.mem_filter, mem_rangeL]
  have hex : ∀ k : Int, ∃ v : Int, (∀ i : Int, 0 ≤ i → i < el.length → gx el i = k → v = gx t3 i) ∧ (k ∉ el → v = 0) := fun k => by
    by_cases h : k ∈ el
    · obtain ⟨i, i0, i1, e⟩ := mem_gx h
      refine ⟨gx t3 i, fun j j0 j1 ej => ?_, fun z => absurd h z⟩
      rw [gx_inj hnd i0 i1 j0 j1 (e.trans ej.symm)]
    · exact ⟨0, fun i i0 i1 e => absurd (e ▸ gx_mem i0 i1) h, fun _ => rfl⟩
  have hl1 := D.len
  rw [List.length_map] at hl1
  have hu : ∃ u : List Int, u.length = roll.length ∧ ∀ k : Int, 0 ≤ k → k < roll.length → (∀ i : Int, 0 ≤ i → i < el.length → gx el i = k → gx u k = gx t3 i) ∧ (k ∉ el → gx u k = 0) := by
    refine ⟨(rangeL 0 roll.length).map fun k => (hex k).choose, by rw [List.length_map, rangeL_length]; omega, fun k k0 k1 => ?_⟩
    rw [gx_map k0 (by rw [rangeL_length]; omega), gx_rangeL k0 (by omega), Int.zero_add]
    exact (hex k).choose_spec
  obtain ⟨u, ul, hu⟩ := hu
  have hui : ∀ i : Int, 0 ≤ i → i < el.length → gx u (gx el i) = gx t3 i := fun i i0 i1 => by
    have hm := (hmem _).mp (gx_mem i0 i1)
    exact (hu _ hm.1.1 hm.1.2).1 i i0 i1 rfl
  have hgr : ∀ i : Int, 0 ≤ i → i < el.length → gx (el.map (gx roll)) i = gx roll (gx el i) := fun i i0 i1 => gx_map i0 i1
  have hre : ∀ k : Int, 0 ≤ k → k < roll.length → dayOf roll k ≤ last → ∃ i : Int, 0 ≤ i ∧ i < el.length ∧ gx el i = k := fun k k0 k1 hk => mem_gx ((hmem k).mpr ⟨⟨k0, k1⟩, (hb k k0 k1).mpr hk⟩)
  have hhR : ∀ p, hR r roll u p = hR r (el.map (gx roll)) t3 p := fun p => by
    unfold hR
    show ((rangeL 0 roll.length).map fun k => if p ∈ lstr r (gx roll k) then gx u k else 0).sum = _
    rw [sum_filter (b := b) fun k hk hbk => ?_, ← hel, sum_map_gx, List.length_map]
    · refine sumR_congr fun i i0 i1 => ?_
      show (if p ∈ lstr r (gx roll (gx el i)) then gx u (gx el i) else 0) = if p ∈ lstr r (gx (el.map (gx roll)) i) then gx t3 i else 0
      rw [hgr i i0 i1, hui i i0 i1]
    · have hk := mem_rangeL.mp hk
      have : k ∉ el := fun z => by
        have := ((hmem k).mp z).2
        rw [hbk] at this
        cases this
      show (if p ∈ lstr r (gx roll k) then gx u k else 0) = 0
      rw [(hu k hk.1 hk.2).2 this]
      split <;> rfl
  have hbd : ∀ i : Int, 0 ≤ i → i < el.length → 0 ≤ gx t3 i ∧ gx t3 i ≤ gx w' i := fun i i0 i1 => D.bd i i0 (by rw [List.length_map]; exact i1)
  refine ⟨u, ⟨ul, fun k k0 k1 => ?_, fun k k0 k1 hk => ?_, fun p p0 p1 => by rw [hhR]; exact D.fit p p0 p1, fun k k0 k1 hk => ?_⟩, hui⟩
  · by_cases h : k ∈ el
    · obtain ⟨i, i0, i1, e⟩ := mem_gx h
      rw [← e, hui i i0 i1]
      exact (hbd i i0 i1).1
    · rw [(hu k k0 k1).2 h]
      exact Int.le_refl _
  · obtain ⟨i, i0, i1, e⟩ := hre k k0 k1 hk
    rw [← e, hui i i0 i1, ← hw i i0 i1]
    exact (hbd i i0 i1).2
  · obtain ⟨i, i0, i1, e⟩ := hre k k0 k1 hk
    rw [← e, hui i i0 i1, ← hw i i0 i1]
    rcases D.sh i i0 (by rw [List.length_map]; exact i1) with h | ⟨p, hp, h1, h2⟩
    · exact .inl h
    · rw [hgr i i0 i1] at hp h2
      refine .inr ⟨p, hp, by rw [hhR]; exact h1, fun j hj => ?_⟩
      obtain ⟨j0, j1, j2, j3⟩ := hj
      have hje : j ∈ el := Classical.byContradiction fun z => by
        rw [(hu j j0 j1).2 z] at j2
        omega
      obtain ⟨m, m0, m1, em⟩ := mem_gx hje
      have hq := h2 m ⟨m0, by rw [List.length_map]; exact m1, by rw [← hui m m0 m1, em]; exact j2, by rw [hgr m m0 m1, em]; exact j3⟩
      unfold trp at hq ⊢
      rw [hgr m m0 m1, em, ← hui m m0 m1, em] at hq
      have hmono : m < i → j < gx el i := fun z => by rw [← em]; exact pair_gx hlt m0 z i1
      simp only [dlt] at hq ⊢
      omega
/-! ### ways that meet -/
section
variable {r : List Int} {rk : Int → Int}
theorem way_suf (R : Riv r rk) : ∀ i, Pl r i → ∀ q ∈ wayL r i, ∃ pre, wayL r i = pre ++ wayL r q := by
  refine R.ind ?_ fun i h0 h ih => ?_
  · intro q hq
    rw [way_end] at hq
    exact nomatch hq
  · intro q hq
    rw [way_step R h0 h] at hq ⊢
    rcases List.mem_cons.mp hq with e | e
    · refine ⟨[], ?_⟩
      rw [e, way_step R h0 h]
      rfl
    · obtain ⟨pre, e2⟩ := ih q e
      exact ⟨i :: pre, by rw [e2]; rfl⟩
theorem way_trans (R : Riv r rk) {i q p : Int} (hi : Pl r i) (hq : q ∈ wayL r i) (hp : p ∈ wayL r q) : p ∈ wayL r i := by
  obtain ⟨pre, e⟩ := way_suf R i hi q hq
  rw [e]
  exact List.mem_append_right _ hp
theorem way_comp (R : Riv r rk) {i q p : Int} (hi : Pl r i) (hq : q ∈ wayL r i) (hp : p ∈ wayL r i) : p ∈ wayL r q ∨ q ∈ wayL r p := by
  obtain ⟨pre, e⟩ := way_suf R i hi q hq
  obtain ⟨pre2, e2⟩ := way_suf R i hi p hp
  have hqb := way_mem R i hi q hq
  have hpb := way_mem R i hi p hp
  rcases List.suffix_or_suffix_of_suffix (⟨pre, e.symm⟩ : wayL r q <:+ wayL r i) (⟨pre2, e2.symm⟩ : wayL r p <:+ wayL r i) with h | h
  · exact .inr (h.subset (by rw [way_step R hqb.1 hqb.2]; exact List.mem_cons_self ..))
  · exact .inl (h.subset (by rw [way_step R hpb.1 hpb.2]; exact List.mem_cons_self ..))
theorem way_self (R : Riv r rk) {p : Int} (h0 : 0 ≤ p) (h1 : p < r.length) : p ∈ wayL r p := by
  rw [way_step R h0 h1]; exact List.mem_cons_self ..
/-- the last marked place of a way -/
noncomputable def low (r : List Int) (T : Int → Prop) (x : Int) : Int := by
  classical
  exact ((wayL r x).reverse.find? fun q => decide (T q)).getD (-1)
theorem low_spec (R : Riv r rk) (T : Int → Prop) {x : Int} (hx : Pl r x) : (low r T x = -1 ∧ ∀ q ∈ wayL r x, ¬ T q) ∨ (low r T x ∈ wayL r x ∧ T (low r T x) ∧ ∀ y, Pl r y → low r T x ∈ wayL r y → low r T y = low r T x) := by
  classical
  unfold low
  cases h : (wayL r x).reverse.find? fun q => decide (T q) with
  | none =>
    refine .inl ⟨rfl, fun q hq hT => ?_⟩
    have := List.find?_eq_none.mp h q (List.mem_reverse.mpr hq)
    exact this (decide_eq_true hT)
  | some q =>
    right
    have hq : q ∈ wayL r x := List.mem_reverse.mp (List.mem_of_find?_eq_some h)
    have hT : T q := of_decide_eq_true (p := T q) (List.find?_some (p := fun q => decide (T q)) h)
    refine ⟨hq, hT, fun y hy hqy => ?_⟩
    show ((wayL r y).reverse.find? fun q => decide (T q)).getD (-1) = q
    have hqy : q ∈ wayL r y := hqy
    obtain ⟨pre, e⟩ := way_suf R x hx q hq
    obtain ⟨pre2, e2⟩ := way_suf R y hy q hqy
    have hqb := way_mem R x hx q hq
    have hq2 : ((wayL r q).reverse.find? fun q => decide (T q)) = some q := by
      rw [e, List.reverse_append, List.find?_append] at h
      cases h3 : (wayL r q).reverse.find? fun q => decide (T q) with
      | none =>
        have := List.find?_eq_none.mp h3 q (List.mem_reverse.mpr (way_self R hqb.1 hqb.2))
        exact absurd (decide_eq_true hT) this
      | some z =>
        rw [h3] at h
        exact h
    rw [e2, List.reverse_append, List.find?_append, hq2]
    rfl
theorem sumR_sum_comm {n m : Nat} (f : Int → Int → Int) : sumR n (fun k => sumR m (f k)) = sumR m fun q => sumR n fun k => f k q := sum_sum_comm _ _ f
/-- sets one within another: what is short somewhere is made good at a marked place -/
theorem lam (R : Riv r rk) {n : Nat} (st : Int → Int) (hst : ∀ k : Int, 0 ≤ k → k < n → Pl r (st k)) (T P : Int → Prop) {f g : Int → Int}
    (h1 : ∀ q : Int, 0 ≤ q → q < r.length → T q → sumR n (fun k => if q ∈ wayL r (st k) then f k else 0) ≤ sumR n (fun k => if q ∈ wayL r (st k) then g k else 0))
    (h2 : ∀ k : Int, 0 ≤ k → k < n → P k → g k < f k → ∃ q ∈ wayL r (st k), T q)
    (h3 : ∀ k : Int, 0 ≤ k → k < n → P k → ∀ q ∈ wayL r (st k), T q → ∀ j : Int, 0 ≤ j → j < n → q ∈ wayL r (st j) → P j) [DecidablePred P] :
    sumR n (fun k => if P k then f k else 0) ≤ sumR n (fun k => if P k then g k else 0) := by
  have hsplit : ∀ h : Int → Int, sumR n (fun k => if P k then h k else 0) = sumR r.length (fun q => sumR n fun k => if low r T (st k) = q then (if P k then h k else 0) else 0) + sumR n (fun k => if low r T (st k) = -1 then (if P k then h k else 0) else 0) := fun h => by
    rw [← sumR_sum_comm, ← sumR_add]
    refine sumR_congr fun k k0 k1 => ?_
    rcases low_spec R T (hst k k0 k1) with ⟨e, _⟩ | ⟨e, _, _⟩
    · rw [if_pos e, sumR_zero fun q q0 q1 => if_neg (by omega), Int.zero_add]
    · have hb := way_mem R _ (hst k k0 k1) _ e
      rw [if_neg (show ¬ low r T (st k) = -1 by omega), Int.add_zero, sumR_one (i := low r T (st k)) hb.1 hb.2 fun q q0 q1 hq => if_neg (Ne.symm hq), if_pos rfl]
  rw [hsplit f, hsplit g]
  refine Int.add_le_add (sumR_le fun q q0 q1 => ?_) (sumR_le fun k k0 k1 => ?_)
  · by_cases hex : ∃ k : Int, 0 ≤ k ∧ k < n ∧ P k ∧ low r T (st k) = q
    · obtain ⟨k, k0, k1, kP, ke⟩ := hex
      rcases low_spec R T (hst k k0 k1) with ⟨e, _⟩ | ⟨e1, e2, e3⟩
      · omega
      · rw [ke] at e1 e2 e3
        have hh : ∀ h : Int → Int, sumR n (fun k => if low r T (st k) = q then (if P k then h k else 0) else 0) = sumR n (fun k => if q ∈ wayL r (st k) then h k else 0) := fun h => by
          refine sumR_congr fun j j0 j1 => ?_
          by_cases hj : q ∈ wayL r (st j)
          · rw [if_pos hj, if_pos (e3 _ (hst j j0 j1) hj), if_pos (h3 k k0 k1 kP q e1 e2 j j0 j1 hj)]
          · rw [if_neg hj, if_neg fun z => hj ?_]
            rcases low_spec R T (hst j j0 j1) with ⟨e, _⟩ | ⟨e, _, _⟩
            · omega
            · rw [z] at e
              exact e
        rw [hh f, hh g]
        exact h1 q q0 q1 e2
    · have hh : ∀ h : Int → Int, sumR n (fun k => if low r T (st k) = q then (if P k then h k else 0) else 0) = 0 := fun h => sumR_zero fun j j0 j1 => by
        by_cases a : low r T (st j) = q
        · rw [if_pos a, if_neg fun b => hex ⟨j, j0, j1, b, a⟩]
        · rw [if_neg a]
      rw [hh f, hh g]
      exact Int.le_refl _
  · show (if low r T (st k) = -1 then (if P k then f k else 0) else 0) ≤ if low r T (st k) = -1 then (if P k then g k else 0) else 0
    split
    · split
      · rename_i a b
        refine Classical.byContradiction fun hlt => ?_
        obtain ⟨q, hq, hT⟩ := h2 k k0 k1 b (by omega)
        rcases low_spec R T (hst k k0 k1) with ⟨_, e⟩ | ⟨e, _, _⟩
        · exact e q hq hT
        · have := way_mem R _ (hst k k0 k1) _ e
          omega
      · exact Int.le_refl _
    · exact Int.le_refl _
end
end Wk

set_option Elab.async false
set_option linter.all false
set_option maxRecDepth 100000
set_option maxHeartbeats 4000000
namespace Wk
open PySem PyProof.Rows L2
section
variable {r : List Int} {rk : Int → Int} {roll : List Lic} {s s' w w' t t' u : List Int}
theorem lstr_way (R : Riv r rk) {o : Lic} (h : LicOk r o) (hb : o.2.2.1 = -1) : lstr r o = wayL r o.2.1 := by
  unfold lstr
  rw [hb]
  exact str_end R (.inr ⟨h.1, h.2.1⟩)
/-- a reach that is full of drops within a bound is full of the bounded takes -/
theorem full_cap (D : Dealt r s roll w t) {cap : Int → Int} (c0 : ∀ k : Int, 0 ≤ k → k < roll.length → 0 ≤ cap k) {p : Int} {d : Drop} (A : Ahd r roll t p d) (cm : ∀ j : Int, 0 ≤ j → j < roll.length → 0 < gx t j → dlt (dayOf roll j, gx t j, j) d → gx t j ≤ cap j) :
    hR r roll (t) p = sumR roll.length fun k => if p ∈ lstr r (gx roll k) then min (gx t k) (cap k) else 0 := by
  unfold hR
  refine sumR_congr fun j j0 j1 => ?_
  show (if p ∈ lstr r (gx roll j) then gx t j else 0) = if p ∈ lstr r (gx roll j) then min (gx t j) (cap j) else 0
  by_cases hj : p ∈ lstr r (gx roll j)
  · rw [if_pos hj, if_pos hj]
    have h0 := (D.bd j j0 j1).1
    have h1 := c0 j j0 j1
    by_cases hp : 0 < gx t j
    · have := cm j j0 j1 hp (A j ⟨j0, j1, hp, hj⟩)
      omega
    · omega
  · rw [if_neg hj, if_neg hj]
/-- up to each drop no takes that fit hold more than the dealing -/
theorem greedy (R : Riv r rk) (hz : ∀ o ∈ roll, LicOk r o) (hb : ∀ o ∈ roll, o.2.2.1 = -1) (D : Dealt r s roll w t) (ub : ∀ k : Int, 0 ≤ k → k < roll.length → 0 ≤ gx u k ∧ gx u k ≤ gx w k) (uf : ∀ p : Int, 0 ≤ p → p < r.length → hR r roll u p ≤ upS r s p) (cap : Int → Int) (c0 : ∀ k : Int, 0 ≤ k → k < roll.length → 0 ≤ cap k)
    (cm : ∀ j k : Int, 0 ≤ j → j < roll.length → 0 ≤ k → k < roll.length → 0 < gx t j → gx t k + 1 ≤ cap k → dlt (dayOf roll j, gx t j, j) (dayOf roll k, gx t k + 1, k) → gx t j ≤ cap j) :
    sumR roll.length (fun k => min (gx u k) (cap k)) ≤ sumR roll.length (fun k => min (gx t k) (cap k)) := by
  have hlw : ∀ k : Int, 0 ≤ k → k < roll.length → lstr r (gx roll k) = wayL r (gx roll k).2.1 := fun k k0 k1 => lstr_way R (hz _ (gx_mem k0 k1)) (hb _ (gx_mem k0 k1))
  have key := lam R (n := roll.length) (fun k => (gx roll k).2.1) (fun k k0 k1 => by have := hz _ (gx_mem k0 k1); exact .inr ⟨this.1, this.2.1⟩)
    (fun q => (sumR roll.length fun k => if q ∈ wayL r (gx roll k).2.1 then min (gx t k) (cap k) else 0) = upS r s q) (fun _ => True) (f := fun k => min (gx u k) (cap k)) (g := fun k => min (gx t k) (cap k))
    (fun q q0 q1 hT => by
      show (sumR roll.length fun k => if q ∈ wayL r (gx roll k).2.1 then min (gx u k) (cap k) else 0) ≤ (sumR roll.length fun k => if q ∈ wayL r (gx roll k).2.1 then min (gx t k) (cap k) else 0)
      rw [hT]
      refine Int.le_trans (sumR_le fun k k0 k1 => ?_) (uf q q0 q1)
      show (if q ∈ wayL r (gx roll k).2.1 then min (gx u k) (cap k) else 0) ≤ if q ∈ lstr r (gx roll k) then gx u k else 0
      rw [hlw k k0 k1]
      split
      · omega
      · exact Int.le_refl _)
    (fun k k0 k1 _ hlt => by
      have hlt : min (gx t k) (cap k) < min (gx u k) (cap k) := hlt
      have h1 := ub k k0 k1
      rcases D.sh k k0 k1 with h | ⟨p, hp, e, A⟩
      · omega
      · have hf := full_cap D c0 A fun j j0 j1 hj hd => cm j k j0 j1 k0 k1 hj (by omega) hd
        refine ⟨p, by rw [← hlw k k0 k1]; exact hp, ?_⟩
        show (sumR roll.length fun k => if p ∈ wayL r (gx roll k).2.1 then min (gx t k) (cap k) else 0) = upS r s p
        rw [← e, hf]
        refine sumR_congr fun j j0 j1 => ?_
        show (if p ∈ wayL r (gx roll j).2.1 then min (gx t j) (cap j) else 0) = if p ∈ lstr r (gx roll j) then min (gx t j) (cap j) else 0
        rw [hlw j j0 j1])
    (fun _ _ _ _ _ _ _ _ _ _ _ => trivial)
  have e : ∀ h : Int → Int, sumR roll.length (fun k => if True then h k else 0) = sumR roll.length h := fun h => sumR_congr fun k _ _ => if_pos trivial
  rw [e, e] at key
  exact key
theorem sumR_app (a : Nat) (h : Int → Int) : ∀ b : Nat, sumR (a + b) h = sumR a h + sumR b fun i => h (a + i)
  | 0 => by rw [Nat.add_zero]; show _ = _ + (0 : Int); omega
  | b + 1 => by
    rw [← Nat.add_assoc, sumR_succ, sumR_succ, sumR_app a h b, Int.natCast_add]
    omega
/-- more rain, or lesser wants of some: the others have no less -/
theorem rain (R : Riv r rk) (hz : ∀ o ∈ roll, LicOk r o) (hb : ∀ o ∈ roll, o.2.2.1 = -1) (D : Dealt r s roll w t) (D' : Dealt r s' roll w' t') (hw : ∀ k : Int, 0 ≤ k → k < roll.length → gx w' k ≤ gx w k) (hs : ∀ q : Int, 0 ≤ q → q < r.length → gx s q ≤ gx s' q) {k : Int} (k0 : 0 ≤ k) (k1 : k < roll.length) : min (gx t k) (gx w' k) ≤ gx t' k := by
  refine Classical.byContradiction fun hno => ?_
  have hlw : ∀ k : Int, 0 ≤ k → k < roll.length → lstr r (gx roll k) = wayL r (gx roll k).2.1 := fun k k0 k1 => lstr_way R (hz _ (gx_mem k0 k1)) (hb _ (gx_mem k0 k1))
  have hpl : ∀ k : Int, 0 ≤ k → k < roll.length → Pl r (gx roll k).2.1 := fun k k0 k1 => by have := hz _ (gx_mem k0 k1); exact .inr ⟨this.1, this.2.1⟩
  rcases D'.sh k k0 k1 with h | ⟨p, hp, e, A⟩
  · omega
  have hpk : p ∈ wayL r (gx roll k).2.1 := by rw [← hlw k k0 k1]; exact hp
  have hpb := way_mem R _ (hpl k k0 k1) p hpk
  obtain ⟨cap, hcap⟩ : ∃ cap : Int → Int, ∀ j, cap j = if dayOf roll j < dayOf roll k then gx w j else if dayOf roll j = dayOf roll k then (if j < k then gx t' k + 1 else gx t' k) else 0 := ⟨_, fun j => rfl⟩
  have bt : ∀ j : Int, 0 ≤ j → j < roll.length → 0 ≤ gx t j ∧ gx t j ≤ gx w j ∧ 0 ≤ gx t' j ∧ gx t' j ≤ gx w' j ∧ gx w' j ≤ gx w j := fun j j0 j1 => by
    have a := D.bd j j0 j1
    have b := D'.bd j j0 j1
    have c := hw j j0 j1
    omega
  have c0 : ∀ j : Int, 0 ≤ j → j < roll.length → 0 ≤ cap j := fun j j0 j1 => by
    have a := bt j j0 j1
    have b := bt k k0 k1
    rw [hcap]
    split
    · omega
    · split
      · split <;> omega
      · omega
  have cm : ∀ i j : Int, 0 ≤ j → j < roll.length → gx t i + 1 ≤ cap i → dlt (dayOf roll j, gx t j, j) (dayOf roll i, gx t i + 1, i) → 0 < gx t j → 0 ≤ gx t i → gx t j ≤ cap j := fun i j j0 j1 hi hd h0 hi0 => by
    have a := bt j j0 j1
    have b := bt k k0 k1
    rw [hcap] at hi ⊢
    simp only [dlt] at hd
    split
    · omega
    · split at hi
      · split
        · split <;> omega
        · omega
      · split at hi
        · split
          · split <;> split at hi <;> omega
          · omega
        · omega
  have hck : min (gx t k) (cap k) < gx t k := by
    rw [hcap, if_neg (by omega), if_pos rfl, if_neg (by omega)]
    omega
  -- what is bounded is short of what is free, on the way of k
  have hshort : ∀ q ∈ wayL r (gx roll k).2.1, (sumR roll.length fun j => if q ∈ wayL r (gx roll j).2.1 then min (gx t j) (cap j) else 0) < upS r s q := fun q hq => by
    have hqb := way_mem R _ (hpl k k0 k1) q hq
    refine Int.lt_of_lt_of_le (sumR_lt (g := fun j => if q ∈ lstr r (gx roll j) then gx t j else 0) (k := k) k0 k1 (fun j j0 j1 => ?_) ?_) (D.fit q hqb.1 hqb.2)
    · show (if q ∈ wayL r (gx roll j).2.1 then min (gx t j) (cap j) else 0) ≤ if q ∈ lstr r (gx roll j) then gx t j else 0
      rw [hlw j j0 j1]
      split
      · omega
      · exact Int.le_refl _
    · show (if q ∈ wayL r (gx roll k).2.1 then min (gx t k) (cap k) else 0) < if q ∈ lstr r (gx roll k) then gx t k else 0
      rw [hlw k k0 k1, if_pos hq, if_pos hq]
      exact hck
  have hsum : ∀ (q : Int) (F : Int → Int) (H : Int → Int), (sumR (roll.length + r.length) fun i => if q ∈ wayL r (if i < roll.length then (gx roll i).2.1 else i - roll.length) then (if i < roll.length then F i else - H (i - roll.length)) else 0) = (sumR roll.length fun j => if q ∈ wayL r (gx roll j).2.1 then F j else 0) - sumR r.length fun x => if q ∈ wayL r x then H x else 0 := fun q F H => by
    rw [sumR_app, Int.sub_eq_add_neg]
    congr 1
    · refine sumR_congr fun j j0 j1 => ?_
      show (if q ∈ wayL r (if j < roll.length then (gx roll j).2.1 else j - roll.length) then (if j < roll.length then F j else - H (j - roll.length)) else 0) = _
      rw [if_pos j1, if_pos j1]
    · have : ∀ n : Nat, ∀ f : Int → Int, - sumR n f = sumR n fun x => - f x := fun n f => by
        have h1 := sumR_add (n := n) (f := f) (g := fun x => - f x)
        rw [sumR_zero (f := fun q => f q + - f q) fun q _ _ => by show f q + - f q = 0; omega] at h1
        omega
      rw [this]
      refine sumR_congr fun x x0 x1 => ?_
      show (if q ∈ wayL r (if (roll.length : Int) + x < roll.length then (gx roll ((roll.length : Int) + x)).2.1 else (roll.length : Int) + x - roll.length) then (if (roll.length : Int) + x < roll.length then F ((roll.length : Int) + x) else - H ((roll.length : Int) + x - roll.length)) else 0) = - if q ∈ wayL r x then H x else 0
      rw [if_neg (show ¬ (roll.length : Int) + x < roll.length by omega), if_neg (show ¬ (roll.length : Int) + x < roll.length by omega), show (roll.length : Int) + x - roll.length = x by omega]
      split <;> omega
  have key := lam R (n := roll.length + r.length) (fun i => if i < roll.length then (gx roll i).2.1 else i - roll.length) (fun i i0 i1 => by
      show Pl r (if i < roll.length then (gx roll i).2.1 else i - roll.length)
      split
      · exact hpl i i0 (by assumption)
      · exact .inr ⟨by omega, by omega⟩)
    (fun q => (sumR roll.length fun j => if q ∈ wayL r (gx roll j).2.1 then min (gx t j) (cap j) else 0) = upS r s q) (fun i => p ∈ wayL r (if i < roll.length then (gx roll i).2.1 else i - roll.length))
    (f := fun i => if i < roll.length then gx t' i else - gx s' (i - roll.length)) (g := fun i => if i < roll.length then min (gx t i) (cap i) else - gx s (i - roll.length))
    (fun q q0 q1 hT => by
      rw [hsum q (gx t') (gx s'), hsum q (fun j => min (gx t j) (cap j)) (gx s), hT]
      have h1 := D'.fit q q0 q1
      have h2 : hR r roll t' q = sumR roll.length fun j => if q ∈ wayL r (gx roll j).2.1 then gx t' j else 0 := sumR_congr fun j j0 j1 => by
        show (if q ∈ lstr r (gx roll j) then gx t' j else 0) = _
        rw [hlw j j0 j1]
      rw [← h2]
      show hR r roll t' q - upS r s' q ≤ upS r s q - upS r s q
      omega)
    (fun i i0 i1 hP hlt => by
      by_cases il : i < roll.length
      · have hP : p ∈ wayL r (if i < roll.length then (gx roll i).2.1 else i - roll.length) := hP
        rw [if_pos il] at hP
        have hlt : (if i < roll.length then min (gx t i) (cap i) else - gx s (i - roll.length)) < if i < roll.length then gx t' i else - gx s' (i - roll.length) := hlt
        rw [if_pos il, if_pos il] at hlt
        have a := bt i i0 il
        have b := bt k k0 k1
        have c := c0 i i0 il
        have hd := A i ⟨i0, il, by omega, by rw [hlw i i0 il]; exact hP⟩
        have hd : dlt (dayOf roll i, gx t' i, i) (dayOf roll k, gx t' k + 1, k) := hd
        have hcp : gx t' i ≤ cap i := by
          simp only [dlt] at hd
          rw [hcap]
          split
          · omega
          · split
            · split <;> omega
            · omega
        rcases D.sh i i0 il with h | ⟨q, hq, e2, A2⟩
        · omega
        · have hf := full_cap D c0 A2 fun j j0 j1 hj hdj => cm i j j0 j1 (by omega) hdj hj a.1
          rw [hlw i i0 il] at hq
          refine ⟨q, by show q ∈ wayL r (if i < roll.length then (gx roll i).2.1 else i - roll.length); rw [if_pos il]; exact hq, ?_⟩
          show (sumR roll.length fun j => if q ∈ wayL r (gx roll j).2.1 then min (gx t j) (cap j) else 0) = upS r s q
          rw [← e2, hf]
          refine sumR_congr fun j j0 j1 => ?_
          show (if q ∈ wayL r (gx roll j).2.1 then min (gx t j) (cap j) else 0) = if q ∈ lstr r (gx roll j) then min (gx t j) (cap j) else 0
          rw [hlw j j0 j1]
      · have hlt : (if i < roll.length then min (gx t i) (cap i) else - gx s (i - roll.length)) < if i < roll.length then gx t' i else - gx s' (i - roll.length) := hlt
        rw [if_neg il, if_neg il] at hlt
        have := hs (i - roll.length) (by omega) (by omega)
        omega)
    (fun i i0 i1 hP q hq hT j j0 j1 hj => by
      have hqk : q ∉ wayL r (gx roll k).2.1 := fun z => by
        have h1 := hshort q z
        have h2 : (sumR roll.length fun j => if q ∈ wayL r (gx roll j).2.1 then min (gx t j) (cap j) else 0) = upS r s q := hT
        omega
      have hpi : ∀ m : Int, 0 ≤ m → m < ((roll.length + r.length : Nat) : Int) → Pl r (if m < roll.length then (gx roll m).2.1 else m - roll.length) := fun m m0 m1 => by
        split
        · exact hpl m m0 (by assumption)
        · exact .inr ⟨by omega, by omega⟩
      rcases way_comp R (hpi i i0 i1) hq hP with h | h
      · exact way_trans R (hpi j j0 j1) hj h
      · exact absurd (way_trans R (hpl k k0 k1) hpk h) hqk)
  rw [hsum p (gx t') (gx s'), hsum p (fun j => min (gx t j) (cap j)) (gx s)] at key
  have h1 := hshort p hpk
  have h2 : hR r roll t' p = sumR roll.length fun j => if p ∈ wayL r (gx roll j).2.1 then gx t' j else 0 := sumR_congr fun j j0 j1 => by
    show (if p ∈ lstr r (gx roll j) then gx t' j else 0) = _
    rw [hlw j j0 j1]
  rw [← h2] at key
  have key : hR r roll t' p - upS r s' p ≤ (sumR roll.length fun j => if p ∈ wayL r (gx roll j).2.1 then min (gx t j) (cap j) else 0) - upS r s p := key
  omega
end
end Wk

set_option Elab.async false
set_option linter.all false
set_option maxRecDepth 100000
set_option synthInstance.maxSize 4000
set_option synthInstance.maxHeartbeats 2000000
namespace Mr
open Wk
def exN : List PySem.Str := []
def exT : List PySem.Str := []
def m_way_of (below : List Int) (reach : Int) : Res (List Int) :=
  (Res.ok (([] : List Int))).bi fun (way_1 : List Int) =>
  (whileM fuel ((reach, way_1)) (fun (s2 : Int × (List Int)) => Res.ok (!decide (s2.1 = (-(1 : Int))))) (fun (s2 : Int × (List Int)) =>
  (appM (s2.2) (s2.1)).bi fun (way_4 : List Int) =>
  (geti (below) (s2.1)).bi fun (reach_5 : Int) =>
  Res.ok ((reach_5, way_4)))).bi fun (s2 : Int × (List Int)) =>
  Res.ok (s2.2)
def m_law_cell_at (script : List Int) (k : Int) : Res Int :=
  if decide (k < ((script).length : Int)) then geti (script) (k) else
  Res.ok ((0 : Int))
def m_law_whole (found : Int) : Res Bool :=
  Res.ok ((true) && (!(false)))
def m_law_pebble (cell : Int) (k : Int) : Res Int :=
  (((Res.ok (((cell % (8589934583 : Int)) + (4409 : Int)))).bi fun u3 => ((mulM ((2 : Int)) (k)).bi fun u1 => (Res.ok ((3 : Int))).bi fun u2 => Res.ok (u1 + u2)).bi fun u4 => mulM u3 u4).bi fun u5 => (mulM ((90001 : Int)) (k)).bi fun u6 => Res.ok (u5 + u6)).bi fun (mark_7 : Int) =>
  ((powM (mark_7) 3).bi fun u8 => Res.ok (u8 % (68719476731 : Int))).bi fun u9 => Res.ok (u9 / (32 : Int))
def m_above_of (below : List Int) (reach : Int) : Res (List Int) :=
  (rng1 (((below).length : Int))).bi fun l4 => compM l4 (fun (y1 : Int) => (Res.ok (reach)).bi fun u2 => (m_way_of (below) (y1)).bi fun u3 => Res.ok (decide (u2 ∈ u3))) (fun (y1 : Int) => Res.ok (y1))
def m_law_pebbles (cell : Int) (many : Int) : Res (List Int) :=
  (rng1 (many)).bi fun l2 => mapMx l2 (fun (y1 : Int) => m_law_pebble (cell) (y1))
def m_law_river (xs : List Int) (cell : Int) : Res (List Int) :=
  (Res.ok (([(0 : Int)] : List Int))).bi fun (order_1 : List Int) =>
  (Res.ok (([(-(1 : Int))] : List Int))).bi fun (onward_2 : List Int) =>
  (rng1 (((xs).length : Int))).bi fun l69 =>
  (foldM l69 ((order_1, onward_2)) (fun (y4 : Int) (s3 : (List Int) × (List Int)) =>
  ((m_law_pebble (cell) (y4)).bi fun u7 => (Res.ok ((y4 + (2 : Int)))).bi fun u8 => modM u7 u8).bi fun u10 => (Res.ok ((y4 + (1 : Int)))).bi fun u11 => (insM (s3.1) u10 u11).bi fun (order_9 : List Int) =>
  ((((geti (xs) (y4)).bi fun u12 => Res.ok (u12 % (7 : Int))).bi fun u13 => (Res.ok ((3 : Int))).bi fun u14 => Res.ok (decide (u13 = u14))).bi fun c35 => if c35 then (appM (s3.2) ((-(1 : Int)))).bi fun (onward_17 : List Int) =>
  Res.ok onward_17 else (((((geti (xs) (y4)).bi fun u18 => Res.ok (u18 / (7 : Int))).bi fun u19 => Res.ok (u19 % (2 : Int))).bi fun u20 => (Res.ok ((0 : Int))).bi fun u21 => Res.ok (decide (u20 = u21))).bi fun c32 => if c32 then (appM (s3.2) (y4)).bi fun (onward_24 : List Int) =>
  Res.ok onward_24 else (((geti (xs) (y4)).bi fun u25 => Res.ok (u25 / (14 : Int))).bi fun u26 => (Res.ok ((y4 + (1 : Int)))).bi fun u27 => modM u26 u27).bi fun u29 => (appM (s3.2) u29).bi fun (onward_28 : List Int) =>
  Res.ok onward_28).bi fun (s22 : (List Int)) =>
  Res.ok s22).bi fun (s15 : (List Int)) =>
  Res.ok ((order_9, s15)))).bi fun (s3 : (List Int) × (List Int)) =>
  (repM (([(0 : Int)] : List Int)) (((s3.1).length : Int))).bi fun (place_36 : List Int) =>
  (rng1 (((s3.1).length : Int))).bi fun l66 =>
  (foldM l66 place_36 (fun (y38 : Int) (s37 : (List Int)) =>
  (Res.ok (y38)).bi fun u42 => (geti (s3.1) (y38)).bi fun u43 => (seti (s37) u43 u42).bi fun (place_41 : List Int) =>
  Res.ok place_41)).bi fun (s37 : (List Int)) =>
  (repM (([(-(1 : Int))] : List Int)) (((s3.1).length : Int))).bi fun (found_44 : List Int) =>
  (rng2 ((1 : Int)) (((s3.1).length : Int))).bi fun l63 =>
  (foldM l63 found_44 (fun (y46 : Int) (s45 : (List Int)) =>
  (((geti (s3.2) (y46)).bi fun u49 => (Res.ok ((-(1 : Int)))).bi fun u50 => Res.ok (!decide (u49 = u50))).bi fun c60 => if c60 then ((Res.ok (s37)).bi fun u53 => (geti (s3.2) (y46)).bi fun u54 => geti u53 u54).bi fun u56 => (geti (s37) (y46)).bi fun u57 => (seti (s45) u57 u56).bi fun (found_55 : List Int) =>
  Res.ok found_55 else Res.ok s45).bi fun (s51 : (List Int)) =>
  Res.ok s51)).bi fun (s45 : (List Int)) =>
  Res.ok (s45)
def m_law_numbers (found : List Int) (due : List Int) : Res Bool :=
  if (!(true)) || (!decide (((found).length : Int) = ((due).length : Int))) then Res.ok (false) else
  (rng1 (((due).length : Int))).bi fun l15 =>
  loopC l15 (()) (fun (y2 : Int) (s1 : Unit) (next5 : Unit → Res Bool) =>
  (((((geti (found) (y2)).bi fun u6 => (Res.ok (())).bi fun u7 => Res.ok (u6, u7)).bi fun g8 => m_law_whole g8.1).bi fun u9 => Res.ok (!u9)).bi fun c12 => if c12 then Res.ok true else (geti (found) (y2)).bi fun u10 => (geti (due) (y2)).bi fun u11 => Res.ok (!decide (u10 = u11))).bi fun c14 => if c14 then Res.ok (false) else
  next5 (())) (fun (s1 : Unit) =>
  Res.ok (true))
def m_law_is_way (found : List Int) (river : List Int) (place : Int) : Res Bool :=
  if !(true) then Res.ok (false) else
  loopC found place (fun (y2 : Int) (s1 : Int) (next5 : Int → Res Bool) =>
  (((m_law_whole (y2)).bi fun u6 => Res.ok (!u6)).bi fun c7 => if c7 then Res.ok true else Res.ok ((decide (s1 = (-(1 : Int)))) || (!decide (y2 = s1)))).bi fun c10 => if c10 then Res.ok (false) else
  (geti (river) (s1)).bi fun (place_8 : Int) =>
  next5 place_8) (fun (s1 : Int) =>
  Res.ok (decide (s1 = (-(1 : Int)))))
def m_law (script : List Int) : Res Bool :=
  (m_law_cell_at (script) ((0 : Int))).bi fun (first_1 : Int) =>
  (Res.ok ((cutL (script) (some ((3 : Int))) (some ((42 : Int)))).map (fun (y2 : Int) => (y2 % ((10 : Int) ^ 9))))).bi fun (xs_3 : List Int) =>
  (if decide ((first_1 % (3 : Int)) = (1 : Int)) then (((m_law_cell_at (script) ((1 : Int))).bi fun u6 => (Res.ok (((first_1 / (3 : Int)) % (40 : Int)), ())).bi fun u7 => Res.ok (u6, u7)).bi fun g8 => m_law_pebbles g8.1 g8.2.1).bi fun (xs_9 : List Int) =>
  Res.ok xs_9 else Res.ok xs_3).bi fun (s4 : (List Int)) =>
  (((Res.ok (s4)).bi fun u10 => ((m_law_cell_at (script) ((2 : Int))).bi fun u12 => (Res.ok (())).bi fun u13 => Res.ok (u12, u13)).bi fun u11 => Res.ok (u10, u11)).bi fun g14 => m_law_river g14.1 g14.2.1).bi fun (river_15 : List Int) =>
  ((rng1 (((river_15).length : Int))).bi fun l17 => mapMx l17 (fun (y16 : Int) => Res.ok (([] : List Int)))).bi fun (due_18 : List (List Int)) =>
  (rng1 (((river_15).length : Int))).bi fun l64 =>
  (foldM l64 due_18 (fun (y20 : Int) (s19 : (List (List Int))) =>
  (Res.ok (y20)).bi fun (place_23 : Int) =>
  (whileM fuel ((s19, place_23)) (fun (s24 : (List (List Int)) × Int) => Res.ok (!decide (s24.2 = (-(1 : Int))))) (fun (s24 : (List (List Int)) × Int) =>
  (Res.ok (s24.2)).bi fun u27 => (geti (s24.1) u27).bi fun u28 => (Res.ok (y20)).bi fun u29 => (appM u28 u29).bi fun u30 => (seti (s24.1) u27 u30).bi fun (due_26 : List (List Int)) =>
  (geti (river_15) (s24.2)).bi fun (place_31 : Int) =>
  Res.ok ((due_26, place_31)))).bi fun (s24 : (List (List Int)) × Int) =>
  Res.ok s24.1)).bi fun (s19 : (List (List Int))) =>
  (Res.ok (river_15)).bi fun (handed_34 : List Int) =>
  (rng1 (((river_15).length : Int))).bi fun l61 =>
  loopC l61 (()) (fun (y36 : Int) (s35 : Unit) (next39 : Unit → Res Bool) =>
  ((((m_way_of (handed_34) (y36)).bi fun u40 => (Res.ok (river_15, y36, ())).bi fun u41 => Res.ok (u40, u41)).bi fun g42 => m_law_is_way g42.1 g42.2.1 g42.2.2.1).bi fun u43 => Res.ok (!u43)).bi fun c45 => if c45 then Res.ok (false) else
  next39 (())) (fun (s35 : Unit) =>
  (rng1 ((min ((8 : Int)) (((river_15).length : Int))))).bi fun l60 =>
  loopC l60 (()) (fun (y47 : Int) (s46 : Unit) (next50 : Unit → Res Bool) =>
  (modM (((first_1 / (120 : Int)) + y47)) (((river_15).length : Int))).bi fun (place_51 : Int) =>
  ((((m_above_of (handed_34) (place_51)).bi fun u52 => ((geti (s19) (place_51)).bi fun u54 => (Res.ok (())).bi fun u55 => Res.ok (u54, u55)).bi fun u53 => Res.ok (u52, u53)).bi fun g56 => m_law_numbers g56.1 g56.2.1).bi fun u57 => Res.ok (!u57)).bi fun c59 => if c59 then Res.ok (false) else
  next50 (())) (fun (s46 : Unit) =>
  Res.ok (decide (handed_34 = river_15))))
end Mr

set_option Elab.async false
set_option linter.all false
set_option maxRecDepth 100000
set_option maxHeartbeats 4000000
set_option synthInstance.maxSize 4000
set_option synthInstance.maxHeartbeats 400000
namespace Mr
open PySem PyProof.Rows L2 Wk
theorem cell_at_eq {script : List Int} {k : Int} (h : 0 ≤ k) : m_law_cell_at script k = .ok (if k < script.length then gx script k else 0) := by
  unfold m_law_cell_at
  by_cases hk : k < script.length
  · rw [if_pos (decide_eq_true hk), if_pos hk, geti_eq h hk]
  · rw [if_neg (by simpa using hk), if_neg hk]
theorem cell_at_ok (script : List Int) {k : Int} (h : 0 ≤ k) : ∃ v, m_law_cell_at script k = .ok v := ⟨_, cell_at_eq h⟩
theorem cut_tail (xs : List Int) : cutL xs (some 1) none = xs.drop 1 := by
  show ((xs.drop (min (1 : Int).toNat xs.length)).take (xs.length - min (1 : Int).toNat xs.length)) = xs.drop 1
  cases xs with
  | nil => rfl
  | cons x r =>
    rw [show min (1 : Int).toNat (x :: r).length = 1 by rw [List.length_cons]; omega]
    exact List.take_of_length_le (by simp)
theorem cut_init (xs : List Int) : cutL xs none (some (-1)) = xs.take (xs.length - 1) := by
  show ((xs.drop 0).take (((-1 : Int) + xs.length).toNat - 0)) = _
  rw [List.drop_zero]
  congr 1
  omega
theorem zip_next {xs : List Int} {y : Int × Int} (h : y ∈ (xs.take (xs.length - 1)).zip (xs.drop 1)) : ∃ i : Nat, xs[i]? = some y.1 ∧ xs[i + 1]? = some y.2 := by
  obtain ⟨i, hi⟩ := List.mem_iff_getElem?.mp h
  rw [List.getElem?_zip_eq_some] at hi
  obtain ⟨h1, h2⟩ := hi
  rw [List.getElem?_drop] at h2
  have hl := getElem?_some_of h1
  rw [List.length_take] at hl
  rw [List.getElem?_take_of_lt (by omega)] at h1
  exact ⟨i, h1, by rw [Nat.add_comm]; exact h2⟩
theorem cut_len_le (xs : List Int) (a b : Nat) : (cutL xs (some (a : Int)) (some (b : Int))).length ≤ b - a := by
  unfold cutL
  rw [HT.sIx_nat, HT.sIx_nat, List.length_take, List.length_drop]
  omega
theorem pebble_ok (cell : Int) {k : Int} (h0 : 0 ≤ k) (h1 : k ≤ 1000000) : Ok (m_law_pebble cell k) fun v => 0 ≤ v ∧ v < 68719476731 := by
  unfold m_law_pebble
  obtain ⟨a, b⟩ := emod_bd cell (m := 8589934583) (by decide)
  have hm := mul_bd (x := cell % 8589934583 + 4409) (y := 2 * k + 3) (a := 8589940000) (b := 2000003) (by omega) (by omega) (by omega) (by omega)
  rw [mul_small (x := 2) (by omega) (by omega) (by omega) (by omega)]
  simp only [ok_bi]
  rw [mul_small (by omega) (by omega) (by omega) (by omega), mul_small (by omega) (by omega) (by omega) (by omega)]
  simp only [ok_bi]
  rw [pow_eq (by omega)]
  simp only [ok_bi]
  obtain ⟨c, d⟩ := emod_bd (((cell % 8589934583 + 4409) * (2 * k + 3) + 90001 * k) ^ 3) (m := 68719476731) (by decide)
  exact ⟨by omega, by omega⟩
theorem pebbles_ok (cell : Int) {n : Int} (h0 : 0 ≤ n) (h1 : n ≤ 1000000) : Ok (m_law_pebbles cell n) fun xs => (xs.length : Int) = n ∧ ∀ i, 0 ≤ i → i < n → 0 ≤ gx xs i ∧ gx xs i < 68719476731 := by
  unfold m_law_pebbles
  rw [rng1_eq (by omega) (by omega), ok_bi]
  refine Ok.imp (mapMx_ok2 (P := fun _ v => 0 ≤ v ∧ v < 68719476731) fun y hy => pebble_ok cell (mem_rangeL.mp hy).1 (by have := (mem_rangeL.mp hy).2; omega)) fun xs ⟨h, k⟩ => ?_
  rw [rangeL_length] at h k
  exact ⟨by omega, fun i a b => k i a (by omega)⟩
theorem river_ok (xs : List Int) (cell : Int) (hx : xs.length ≤ 10000) : Ok (m_law_river xs cell) fun r => r.length = xs.length + 1 ∧ ∃ rk, Riv r rk := by
  unfold m_law_river
  rw [ok_bi, ok_bi, rng1_eq (by omega) (by omega), ok_bi]
  refine Ok.bi (foldR_ok (by omega) (fun i s => s.1.Perm (rangeL 0 (i + 1)) ∧ (s.2.length : Int) = i + 1 ∧ ∀ j : Int, 0 ≤ j → j < i + 1 → gx s.2 j = -1 ∨ (0 ≤ gx s.2 j ∧ gx s.2 j < j)) ⟨List.Perm.refl _, rfl, fun j h0 h1 => .inl ?_⟩ fun i s hi0 hi I => ?_) fun s I => ?_
  · have e : j = 0 := by omega
    subst e
    rfl
  · obtain ⟨order, onward⟩ := s
    obtain ⟨I1, I2, I3⟩ := I
    have I1 : order.Perm (rangeL 0 (i + 1)) := I1
    have I2 : (onward.length : Int) = i + 1 := I2
    have hol : (order.length : Int) = i + 1 := by
      rw [I1.length_eq, rangeL_length]
      omega
    refine Ok.bi (P := fun v => 0 ≤ v ∧ v < i + 2) ?_ fun j hj => ?_
    · refine Ok.bi (pebble_ok cell (by omega) (by omega)) fun v _ => ?_
      rw [ok_bi, modM_eq (by omega)]
      exact emod_bd v (by omega)
    · rw [ok_bi]
      show Ok ((insM order j (i + 1)).bi _) _
      rw [ins_eq (by omega) hj.1 (by omega), ok_bi]
      have hp : (order.take j.toNat ++ [i + 1] ++ order.drop j.toNat).Perm (rangeL 0 (i + 1 + 1)) := by
        refine (ins_perm _ _ _).trans ?_
        have := rangeL_snoc (i + 1).toNat
        rw [show (((i + 1).toNat : Nat) : Int) = i + 1 by omega] at this
        rw [this]
        exact I1.append_right _
      have fin : ∀ u : Int, (u = -1 ∨ (0 ≤ u ∧ u < i + 1)) → Ok ((appM onward u).bi fun o => Res.ok (order.take j.toNat ++ [i + 1] ++ order.drop j.toNat, o)) fun s => s.1.Perm (rangeL 0 (i + 1 + 1)) ∧ (s.2.length : Int) = i + 1 + 1 ∧ ∀ j : Int, 0 ≤ j → j < i + 1 + 1 → gx s.2 j = -1 ∨ (0 ≤ gx s.2 j ∧ gx s.2 j < j) := fun u hu => by
        rw [app_eq (small_lt (by omega)), ok_bi]
        refine ⟨hp, by rw [List.length_append, List.length_singleton]; omega, fun t h0 h1 => ?_⟩
        show gx (onward ++ [u]) t = -1 ∨ _ ∧ gx (onward ++ [u]) t < t
        rw [gx_append h0]
        by_cases ht : t < onward.length
        · rw [if_pos ht]
          exact I3 t h0 (by omega)
        · rw [if_neg ht]
          have e : t - onward.length = 0 := by omega
          rw [e]
          show u = -1 ∨ 0 ≤ u ∧ u < t
          omega
      rw [geti_eq (xs := xs) hi0 hi]
      simp only [ok_bi]
      by_cases c1 : gx xs i % 7 = 3
      · rw [if_pos (decide_eq_true c1), bi_bi]
        exact fin (-1) (.inl rfl)
      · rw [if_neg (by simpa using c1)]
        by_cases c2 : gx xs i / 7 % 2 = 0
        · rw [if_pos (decide_eq_true c2), bi_bi, bi_bi]
          exact fin i (.inr ⟨by omega, by omega⟩)
        · rw [if_neg (by simpa using c2), modM_eq (by omega), ok_bi, bi_bi, bi_bi]
          have := emod_bd (gx xs i / 14) (m := i + 1) (by omega)
          exact fin _ (.inr ⟨this.1, by omega⟩)
  · obtain ⟨order, onward⟩ := s
    have I : order.Perm (rangeL 0 ((xs.length : Int) + 1)) ∧ (onward.length : Int) = (xs.length : Int) + 1 ∧ ∀ j : Int, 0 ≤ j → j < (xs.length : Int) + 1 → gx onward j = -1 ∨ (0 ≤ gx onward j ∧ gx onward j < j) := I
    have I1 := I.1
    have I2 := I.2.1
    have I3 := I.2.2
    clear I
    generalize hn : xs.length + 1 = n
    have hn' : (xs.length : Int) + 1 = n := by omega
    rw [hn'] at I1 I2 I3
    have I1 : order.Perm (rangeL 0 n) := I1
    have I2 : (onward.length : Int) = n := I2
    have hol : order.length = n := by
      rw [I1.length_eq, rangeL_length]
      omega
    have hnd : order.Nodup := I1.nodup_iff.mpr (nodup_rangeL _ _)
    show Ok ((repM [(0 : Int)] ((order.length : Int))).bi _) _
    rw [rep_eq (by omega) (by omega), ok_bi]
    show Ok ((rng1 (order.length : Int)).bi _) _
    rw [rng1_eq (by omega) (by omega), ok_bi]
    refine Ok.bi (foldR_ok (by omega) (fun i (s : List Int) => s.length = n ∧ ∀ t : Int, 0 ≤ t → t < i → gx s (gx order t) = t) ⟨?_, fun t h0 h1 => by omega⟩ fun i s hi0 hi J => ?_) fun place J => ?_
    · rw [List.length_replicate, hol]
      omega
    · obtain ⟨J1, J2⟩ := J
      rw [ok_bi]
      show Ok ((geti order i).bi _) _
      rw [geti_eq (by omega) (by omega), ok_bi]
      have hm := mem_of_gx I1 (i := i) (by omega) (by omega)
      rw [seti_eq hm.1 (by omega), ok_bi]
      refine ⟨by rw [List.length_set]; exact J1, fun t h0 h1 => ?_⟩
      have hm2 := mem_of_gx I1 (i := t) (by omega) (by omega)
      rw [gx_set hm.1 hm2.1 (by omega)]
      by_cases e : gx order t = gx order i
      · rw [if_pos e]
        exact (gx_inj hnd (by omega) (by omega) (by omega) (by omega) e).symm
      · rw [if_neg e]
        refine J2 t h0 ?_
        have : t ≠ i := fun z => e (by rw [z])
        omega
    · have J : place.length = n ∧ ∀ t : Int, 0 ≤ t → t < order.length → gx place (gx order t) = t := J
      have J1 := J.1
      have J2 := J.2
      clear J
      have hrep := rep_eq (k := (order.length : Int)) (a := (-1 : Int)) (by omega) (by omega)
      show Ok ((repM [(-1 : Int)] ((order.length : Int))).bi _) _
      rw [hrep, ok_bi]
      show Ok ((rng2 1 (order.length : Int)).bi _) _
      rw [rng2_eq (by omega) (by omega) (by omega) (by omega) (by omega), ok_bi]
      have hP : ∀ k : Int, 0 ≤ k → k < n → ∃ t : Int, 0 ≤ t ∧ t < n ∧ gx order t = k ∧ gx place k = t := fun k h0 h1 => by
        have hk : k ∈ order := I1.mem_iff.mpr (mem_rangeL.mpr ⟨h0, h1⟩)
        obtain ⟨t, a, b, c⟩ := mem_gx hk
        exact ⟨t, a, by omega, c, by rw [← c]; exact J2 t a (by omega)⟩
      refine Ok.bi (foldR_ok (by omega) (fun i (s : List Int) => s.length = n ∧ ∀ p : Int, 0 ≤ p → p < n → gx s p = -1 ∨ ∃ k u : Int, 0 ≤ u ∧ u < k ∧ k < n ∧ p = gx place k ∧ gx s p = gx place u) ⟨?_, fun p h0 h1 => .inl (gx_rep h0 (by omega))⟩ fun y s hy0 hy1 K => ?_) fun found K => ?_
      · rw [List.length_replicate, hol]
        omega
      · obtain ⟨K1, K2⟩ := K
        have hpl := hP y (by omega) (by omega)
        show Ok (((((geti onward y).bi _).bi _).bi _)) _
        rw [geti_eq (by omega) (by omega)]
        simp only [ok_bi]
        by_cases e : gx onward y = -1
        · rw [if_neg (by simpa using e), ok_bi]
          exact ⟨K1, K2⟩
        · rw [if_pos (by simpa using e)]
          obtain ⟨u0, u1⟩ : 0 ≤ gx onward y ∧ gx onward y < y := by
            rcases I3 y (by omega) (by omega) with h | h
            · exact absurd h e
            · exact h
          rw [geti_eq u0 (by omega), geti_eq (by omega) (by omega)]
          simp only [ok_bi]
          obtain ⟨t, t0, t1, t2, t3⟩ := hpl
          rw [t3, seti_eq t0 (by omega)]
          simp only [ok_bi]
          refine ⟨by rw [List.length_set]; exact K1, fun p h0 h1 => ?_⟩
          rw [gx_set t0 h0 (by omega)]
          by_cases ep : p = t
          · rw [if_pos ep]
            exact .inr ⟨y, gx onward y, u0, u1, by omega, by rw [t3]; exact ep, rfl⟩
          · rw [if_neg ep]
            exact K2 p h0 h1
      · have K1 := K.1
        have K2 := K.2
        refine ⟨K1, riv_of (P := gx place) K1 (fun k h0 h1 => ?_) (fun j k a b c d e => ?_) K2 (by omega)⟩
        · obtain ⟨t, t0, t1, _, t3⟩ := hP k h0 h1
          rw [t3]
          exact ⟨t0, t1⟩
        · obtain ⟨t, t0, t1, t2, t3⟩ := hP j a b
          obtain ⟨t', t0', t1', t2', t3'⟩ := hP k c d
          rw [t3, t3'] at e
          rw [← t2, ← t2', e]
theorem way_of_eq {r : List Int} {rk : Int → Int} (R : Riv r rk) (hn : r.length ≤ 60000) {i : Int} (hi : Pl r i) : m_way_of r i = .ok (wayL r i) := by
  refine Ok.eq ?_
  unfold m_way_of
  rw [ok_bi]
  refine Ok.bi (whileM_ok (Q := fun s => s.2 = wayL r i) (fun k s => Pl r s.1 ∧ s.2 ++ wayL r s.1 = wayL r i ∧ k = (wayL r s.1).length) (k := (wayL r i).length) ⟨hi, rfl, rfl⟩ ?_ ?_) fun s (hs : s.2 = wayL r i) => (show s.2 = wayL r i from hs)
  · have := (way_len R i hi).1
    rw [fuel_eq]
    omega
  · rintro k ⟨a, w⟩ ⟨h1, h2, h3⟩
    show if (!decide (a = -1)) = true then _ else _
    have h1 : Pl r a := h1
    have h2 : w ++ wayL r a = wayL r i := h2
    by_cases e : a = -1
    · subst e
      rw [way_end, List.append_nil] at h2
      rw [if_neg (by decide)]
      exact h2
    · obtain ⟨h0, hl⟩ : 0 ≤ a ∧ a < r.length := by
        rcases h1 with h | h
        · exact absurd h e
        · exact h
      rw [if_pos (by simpa using e)]
      have h3 : k = (wayL r a).length := h3
      rw [way_step R h0 hl] at h2 h3
      rw [List.length_cons] at h3
      refine ⟨(wayL r (gx r a)).length, h3, ?_⟩
      have hw : w.length < 16777216 := by
        have e1 := congrArg List.length h2
        rw [List.length_append] at e1
        have := (way_len R i hi).1
        omega
      show Ok ((appM w a).bi _) _
      rw [app_eq (small_lt hw), ok_bi]
      show Ok ((geti r a).bi _) _
      rw [geti_eq h0 hl, ok_bi]
      exact ⟨R.pl h0 hl, by rw [List.append_assoc]; exact h2, rfl⟩
theorem rangeL_snocI {i : Int} (h : 0 ≤ i) : rangeL 0 (i + 1) = rangeL 0 i ++ [i] := by
  have := rangeL_snoc i.toNat
  rwa [show ((i.toNat : Nat) : Int) = i by omega] at this
theorem is_way_ok {r : List Int} {rk : Int → Int} (R : Riv r rk) {i : Int} (hi : Pl r i) : m_law_is_way (wayL r i) r i = .ok true := by
  refine Ok.eq ?_
  unfold m_law_is_way
  rw [if_neg (by decide)]
  refine loopC_ok (fun j s => Pl r s ∧ (wayL r i).drop j = wayL r s) ⟨hi, rfl⟩ (fun j y s next hy I hnx => ?_) fun s I => ?_
  · obtain ⟨hs, I⟩ := I
    have hj := getElem?_some_of hy
    have hwh : m_law_whole y = .ok true := rfl
    rw [hwh]
    simp only [okb, Bool.not_true, Bool.false_eq_true, if_false]
    have hd : (wayL r i).drop j = y :: (wayL r i).drop (j + 1) := by
      rw [List.drop_eq_getElem_cons hj]
      congr 1
      exact Option.some.inj ((List.getElem?_eq_getElem hj).symm.trans hy)
    rcases hs with e | ⟨s0, s1⟩
    · rw [e, way_end, hd] at I
      cases I
    · rw [way_step R s0 s1, hd] at I
      injection I with e1 e2
      subst e1
      rw [if_neg (by simp; omega), geti_eq s0 s1, okb]
      exact hnx _ ⟨R.pl s0 s1, e2⟩
  · obtain ⟨hs, I⟩ := I
    rw [List.drop_length] at I
    rcases hs with e | ⟨s0, s1⟩
    · rw [decide_eq_true e]
      exact rfl
    · rw [way_step R s0 s1] at I
      cases I
theorem numbers_ok {F : List Int} (hl : F.length ≤ 60000) : m_law_numbers F F = .ok true := by
  refine Ok.eq ?_
  unfold m_law_numbers
  rw [if_neg (by simp), rng1_eq (by omega) (by omega), okb]
  refine loopC_ok (fun _ _ => True) trivial (fun j y s next hy _ hnx => ?_) fun _ _ => rfl
  have hm := mem_rangeL.mp (List.mem_of_getElem? hy)
  have hwh : ∀ z : Int, m_law_whole z = .ok true := fun _ => rfl
  rw [geti_eq hm.1 (by omega)]
  simp only [okb, hwh, Bool.not_true, Bool.false_eq_true, if_false, decide_true]
  exact hnx () trivial
theorem above_eq {r : List Int} {rk : Int → Int} (R : Riv r rk) (hn : r.length ≤ 60000) {p : Int} : m_above_of r p = .ok ((rangeL 0 (r.length : Int)).filter fun i => decide (p ∈ wayL r i)) := by
  unfold m_above_of
  rw [rng1_eq (by omega) (by omega), okb]
  have h := compM_eq (l := rangeL 0 (r.length : Int)) (c := fun (y1 : Int) => (Res.ok p).bi fun u2 => (m_way_of r y1).bi fun u3 => Res.ok (decide (u2 ∈ u3))) (b := fun i => decide (p ∈ wayL r i)) (f := fun y => Res.ok y) (g := fun y => y) (fun y hy => by
    have hm := mem_rangeL.mp hy
    rw [way_of_eq R hn (.inr hm)]
    rfl) fun y _ _ => rfl
  rw [h, List.map_id']
/-- a walk that puts one number down at each reach -/
theorem put_ok {r : List Int} {rk : Int → Int} (R : Riv r rk) (hn : r.length ≤ 60000) {top : Int} (t0 : 0 ≤ top) (t1 : top < r.length) {L : List (List Int)} (hl : L.length = r.length) (hs : ∀ z ∈ L, z.length ≤ 60000) :
    Ok ((whileM fuel ((L, top)) (fun (s24 : (List (List Int)) × Int) => Res.ok (!decide (s24.2 = (-(1 : Int))))) (fun (s24 : (List (List Int)) × Int) =>
  (Res.ok (s24.2)).bi fun u27 => (geti (s24.1) u27).bi fun u28 => (Res.ok top).bi fun u29 => (appM u28 u29).bi fun u30 => (seti (s24.1) u27 u30).bi fun (due_26 : List (List Int)) =>
  (geti r (s24.2)).bi fun (place_31 : Int) =>
  Res.ok ((due_26, place_31)))).bi fun (s24 : (List (List Int)) × Int) => Res.ok s24.1) fun L' => L'.length = r.length ∧ ∀ p : Int, 0 ≤ p → p < r.length → gx L' p = gx L p ++ if p ∈ wayL r top then [top] else [] := by
  refine Ok.bi (whileM_ok (Q := fun (s : List (List Int) × Int) => s.1.length = r.length ∧ ∀ p : Int, 0 ≤ p → p < r.length → gx s.1 p = gx L p ++ if p ∈ wayL r top then [top] else []) (fun k (s : List (List Int) × Int) => Pl r s.2 ∧ k = (wayL r s.2).length ∧ s.1.length = r.length ∧ ∃ V, V ++ wayL r s.2 = wayL r top ∧ ∀ p : Int, 0 ≤ p → p < r.length → gx s.1 p = gx L p ++ if p ∈ V then [top] else []) (k := (wayL r top).length) ⟨.inr ⟨t0, t1⟩, rfl, hl, [], rfl, fun p _ _ => by simp⟩ ?_ ?_) fun s hs => hs
  · have := (way_len R _ (.inr ⟨t0, t1⟩)).1
    rw [fuel_eq]
    omega
  · rintro k ⟨S, q⟩ ⟨hq, hk, hS, V, hV, hg⟩
    show if (!decide (q = -1)) = true then _ else _
    by_cases e : q = -1
    · rw [if_neg (by simp [e])]
      rw [e, way_end, List.append_nil] at hV
      rw [hV] at hg
      exact ⟨hS, hg⟩
    · have hq' : 0 ≤ q ∧ q < r.length := hq.resolve_left e
      have hqS : q < (S.length : Int) := by rw [hS]; exact hq'.2
      have hw := way_step R hq'.1 hq'.2
      rw [hw] at hV hk
      rw [if_pos (by simpa using e)]
      refine ⟨(wayL r (gx r q)).length, by rw [hk]; rfl, ?_⟩
      have hqV : q ∉ V := fun z => by
        have nd := way_nodup R top (.inr ⟨t0, t1⟩)
        rw [← hV] at nd
        exact (List.nodup_append.mp nd).2.2 q z q (List.mem_cons_self ..) rfl
      have hgq := hg q hq'.1 hq'.2
      rw [if_neg hqV, List.append_nil] at hgq
      have hlq : (gx S q).length ≤ 60000 := by
        rw [hgq]
        exact hs _ (gx_mem hq'.1 (by rw [hl]; exact hq'.2))
      simp only [okb]
      rw [geti_eq hq'.1 hqS, okb, app_eq (small_lt (by omega)), okb, seti_eq hq'.1 hqS, okb, geti_eq hq'.1 hq'.2, okb]
      refine ⟨R.pl hq'.1 hq'.2, rfl, by rw [List.length_set]; exact hS, V ++ [q], by rw [List.append_assoc]; exact hV, fun p p0 p1 => ?_⟩
      rw [gx_set hq'.1 p0 hqS]
      by_cases ep : p = q
      · rw [if_pos ep, hgq, ep, if_pos (by simp)]
      · rw [if_neg ep, hg p p0 p1]
        by_cases eV : p ∈ V
        · rw [if_pos eV, if_pos (List.mem_append_left _ eV)]
        · rw [if_neg eV, if_neg (by simp [eV, ep])]
theorem law_ok (script : List Int) (hb : ∀ z ∈ script, Builtin.Int.intBits z ≤ 1048576) : m_law script = .ok true := by
  refine Ok.eq ?_
  unfold m_law
  rw [cell_at_eq (k := 0) (by decide), cell_at_eq (k := 1) (by decide), cell_at_eq (k := 2) (by decide)]
  simp only [okb]
  generalize (if (0 : Int) < (script.length : Int) then gx script 0 else 0) = first
  generalize (if (1 : Int) < (script.length : Int) then gx script 1 else 0) = c1
  generalize (if (2 : Int) < (script.length : Int) then gx script 2 else 0) = c2
  have hcl := cut_len_le script 3 42
  refine Ok.bi (P := fun xs => xs.length ≤ 39) ?_ fun xs hxl => ?_
  · split
    · obtain ⟨fa, fb⟩ := emod_bd (first / 3) (m := 40) (by decide)
      obtain ⟨xs, hxs, hxl, _⟩ := (pebbles_ok c1 fa (by omega)).ex
      rw [hxs]
      show xs.length ≤ 39
      omega
    · show ((cutL script (some 3) (some 42)).map _).length ≤ 39
      rw [List.length_map]
      have : (cutL script (some 3) (some 42)).length ≤ 42 - 3 := hcl
      omega
  refine Ok.bi (river_ok xs c2 (by omega)) fun r hr => ?_
  obtain ⟨hl, rk, R⟩ := hr
  rw [rng1_eq (by omega) (by omega)]
  simp only [okb]
  rw [mapMx_ok (fun _ : Int => ([] : List Int)), okb]
  generalize hL0 : ((rangeL 0 (r.length : Int)).map fun _ => ([] : List Int)) = L0
  have hL0l : L0.length = r.length := by
    rw [← hL0, List.length_map, rangeL_length]
    omega
  have hL0g : ∀ p : Int, 0 ≤ p → p < r.length → gx L0 p = [] := fun p p0 p1 => by
    rw [← hL0, gx_map p0 (by rw [rangeL_length]; omega)]
  refine Ok.bi (foldR_ok (by omega) (fun i (L : List (List Int)) => L.length = r.length ∧ ∀ p : Int, 0 ≤ p → p < r.length → gx L p = (rangeL 0 i).filter fun k => decide (p ∈ wayL r k)) ⟨hL0l, fun p p0 p1 => hL0g p p0 p1⟩ fun i L i0 i1 I => ?_) fun L I => ?_
  · obtain ⟨I1, I2⟩ := I
    have hs : ∀ z ∈ L, z.length ≤ 60000 := fun z hz => by
      obtain ⟨p, p0, p1, rfl⟩ := mem_gx hz
      rw [I2 p p0 (by omega)]
      have := List.length_filter_le (fun k => decide (p ∈ wayL r k)) (rangeL 0 i)
      rw [rangeL_length] at this
      omega
    refine (put_ok R (by omega) i0 i1 I1 hs).imp fun L' ⟨h1, h2⟩ => ⟨h1, fun p p0 p1 => ?_⟩
    rw [h2 p p0 p1, I2 p p0 p1, rangeL_snocI (by omega), List.filter_append]
    by_cases c : p ∈ wayL r i
    · rw [if_pos c]
      simp [c]
    · rw [if_neg c]
      simp [c]
  · obtain ⟨I1, I2⟩ := I
    refine loopC_ok (fun _ _ => True) trivial (fun j y s next hy _ hnx => ?_) fun _ _ => ?_
    · have hm := mem_rangeL.mp (List.mem_of_getElem? hy)
      rw [way_of_eq R (by omega) (.inr hm)]
      simp only [okb]
      rw [is_way_ok R (.inr hm)]
      simp only [okb, Bool.not_true, Bool.false_eq_true, if_false]
      exact hnx () trivial
    · rw [rng1_eq (by omega) (by omega), okb]
      refine loopC_ok (fun _ _ => True) trivial (fun j y s next hy _ hnx => ?_) fun _ _ => ?_
      · rw [modM_eq (by omega), okb]
        obtain ⟨q0, q1⟩ := emod_bd (first / 120 + y) (m := (r.length : Int)) (by omega)
        rw [above_eq R (by omega), geti_eq q0 (by omega), I2 _ q0 q1]
        simp only [okb]
        rw [numbers_ok (by
          have := List.length_filter_le (fun i => decide ((first / 120 + y) % (r.length : Int) ∈ wayL r i)) (rangeL 0 (r.length : Int))
          rw [rangeL_length] at this
          omega)]
        simp only [okb, Bool.not_true, Bool.false_eq_true, if_false]
        exact hnx () trivial
      · simp
        exact rfl
end Mr

set_option Elab.async false
set_option linter.all false
set_option maxRecDepth 100000
set_option maxHeartbeats 0
set_option synthInstance.maxSize 4000
set_option synthInstance.maxHeartbeats 2000000
namespace Hd
open PySem PySem.Spec PyProof.Rows L2 Wk Mr
def top (i : Nat) : Stmt := PySem.Challenge.pw_sluice_k02_ways_and_above.main.body.getD i (.Pass ⟨0, 0, 0, 0⟩)
def sub (i j : Nat) : Stmt := match top i with
  | .ClassDef _ _ _ body .. => body.getD j (.Pass ⟨0, 0, 0, 0⟩)
  | _ => .Pass ⟨0, 0, 0, 0⟩
abbrev s_way_of : Stmt := top 1
abbrev s_above_of : Stmt := top 2
abbrev s__law_cell_at : Stmt := top 4
abbrev s__law_whole : Stmt := top 5
abbrev s__law_pebble : Stmt := top 6
abbrev s__law_pebbles : Stmt := top 7
abbrev s__law_river : Stmt := top 8
abbrev s__law_numbers : Stmt := top 9
abbrev s__law_is_way : Stmt := top 10
abbrev s_law : Stmt := top 11
def fn : List He.DefD := [
  ⟨("way_of", none), "way_of", "way_of", defArgs s_way_of, defBody s_way_of, defScope s_way_of, [], []⟩,
  ⟨("above_of", none), "above_of", "above_of", defArgs s_above_of, defBody s_above_of, defScope s_above_of, [], []⟩,
  ⟨("_law_cell_at", none), "_law_cell_at", "_law_cell_at", defArgs s__law_cell_at, defBody s__law_cell_at, defScope s__law_cell_at, [], []⟩,
  ⟨("_law_whole", none), "_law_whole", "_law_whole", defArgs s__law_whole, defBody s__law_whole, defScope s__law_whole, [], []⟩,
  ⟨("_law_pebble", none), "_law_pebble", "_law_pebble", defArgs s__law_pebble, defBody s__law_pebble, defScope s__law_pebble, [], []⟩,
  ⟨("_law_pebbles", none), "_law_pebbles", "_law_pebbles", defArgs s__law_pebbles, defBody s__law_pebbles, defScope s__law_pebbles, [], []⟩,
  ⟨("_law_river", none), "_law_river", "_law_river", defArgs s__law_river, defBody s__law_river, defScope s__law_river, [], []⟩,
  ⟨("_law_numbers", none), "_law_numbers", "_law_numbers", defArgs s__law_numbers, defBody s__law_numbers, defScope s__law_numbers, [], []⟩,
  ⟨("_law_is_way", none), "_law_is_way", "_law_is_way", defArgs s__law_is_way, defBody s__law_is_way, defScope s__law_is_way, [], []⟩,
  ⟨("law", none), "law", "law", defArgs s_law, defBody s_law, defScope s_law, [], []⟩]
def fa : List He.Fa := [.glo "way_of", .glo "above_of", .glo "_law_cell_at", .glo "_law_whole", .glo "_law_pebble", .glo "_law_pebbles", .glo "_law_river", .glo "_law_numbers", .glo "_law_is_way", .glo "law", .free "bool", .free "int", .free "isinstance", .free "len", .free "list", .free "min", .free "range"]
def loose : List PySem.Str := (["way_of", "above_of", "_law_cell_at", "_law_whole", "_law_pebble", "_law_pebbles", "_law_river", "_law_numbers", "_law_is_way"] : List PySem.Str)
abbrev RR : PySem.W.OpenRow := PySem.W.OpenLaw.row PySem.Challenge.rw_sluice_k02_ways_and_above
def exf (K : Wk.Frag) : Bool := Wk.xfB K Mr.exN Mr.exT
abbrev hk : PySem.W.Hook := Wk.hookX 5 fa fn exf
def ob (s : PySem.W.SharedT) : Wk.AlX := Wk.obsXG 5 fa fn exf (HandSHeadRun.getT s)
theorem ob_eq (s : PySem.W.SharedT) : ob s = hk.obs s.abs := Wk.obsXG_eq (HandSHeadRun.getT_eq s)
theorem run (w : World) : HandSHeadRun.RunEq RR (PySem.W.view RR.prog [11]) hk ob 920 loose w := by
  intro os
  kernel_rfl
/-- what the top has left -/
def Fx (K : Frag) (mg : Str → Option Value) : Prop := ∃ h : Heap, K.In h ∧ h.Ns mainGlobals mg ∧ He.SaysD fa fn K ∧ exf K = true
section
variable {K : Frag} {mg : Str → Option Value}
theorem Fx.glo (T : Fx K mg) (i : Nat) {x : Str} (h : fa[i]? = some (.glo x) := by rfl) : mg x = some (.ref (He.ga K x)) := let ⟨_, X, G, c, _⟩ := T; He.glo_ok X G (c.fact i h)
theorem Fx.free (T : Fx K mg) (i : Nat) {x : Str} (h : fa[i]? = some (.free x) := by rfl) : mg x = none := let ⟨_, X, G, c, _⟩ := T; He.free_ok X G (c.fact i h)
theorem Fx.int (T : Fx K mg) (i : Nat) {x : Str} {n : Int} (h : fa[i]? = some (.int x n) := by rfl) : ∃ t, mg x = some (.int n t) := let ⟨_, X, G, c, _⟩ := T; He.int_ok X G (c.fact i h)
theorem Fx.str (T : Fx K mg) (i : Nat) {x z : Str} (h : fa[i]? = some (.str x z) := by rfl) : ∃ t, mg x = some (.str z t) := let ⟨_, X, G, c, _⟩ := T; He.str_ok X G (c.fact i h)
theorem Fx.cls (T : Fx K mg) (i : Nat) {x : Str} (h : fa[i]? = some (.cls x) := by rfl) : Cls K (He.ga K x) := let ⟨_, _, _, c, _⟩ := T; He.cls_ok (c.fact i h)
theorem Fx.noat (T : Fx K mg) (i : Nat) {x f : Str} (h : fa[i]? = some (.noat x f) := by rfl) : NoAttr K (He.ga K x) f := let ⟨_, _, _, c, _⟩ := T; He.noat_ok (c.fact i h)
theorem Fx.meth (T : Fx K mg) (i : Nat) {x m : Str} (h : fa[i]? = some (.meth x m) := by rfl) : Meth K (He.ga K x) m (He.ma K (He.ga K x) m) := let ⟨_, _, _, c, _⟩ := T; He.meth_ok (c.fact i h)
theorem Fx.mkr (T : Fx K mg) (i : Nat) {x : Str} (h : fa[i]? = some (.mkr x) := by rfl) : Mk K (He.ga K x) (He.ma K (He.ga K x) "__init__") := let ⟨_, _, _, c, _⟩ := T; He.mkr_ok (c.fact i h)
theorem Fx.exc (T : Fx K mg) (i j : Nat) {x : Str} (h : fa[i]? = some (.glo x) := by rfl) (h2 : fa[j]? = some (.exc x) := by rfl) : ExF K mg x := by
  obtain ⟨_, X, G, c, _⟩ := T
  obtain ⟨e1, e2, e3, e4⟩ := He.exc_ok (c.fact j h2)
  exact ⟨He.ga K x, He.glo_ok X G (c.fact i h), e1, e2, e3, e4⟩
theorem Fx.def_ (T : Fx K mg) (i : Nat) {d : He.DefD} (h : fn[i]? = some d := by rfl) : ∃ fd, FunD K d.name d.qual d.params d.body d.scope (d.dvs K) (d.kws K) (He.fAd K d.at_) fd := let ⟨_, _, _, c, _⟩ := T; c.def_ i h
theorem Fx.xf (T : Fx K mg) : Wk.XF K mg Mr.exN Mr.exT := let ⟨_, X, G, _, c⟩ := T; Wk.xfB_ok X G c
end
def N_way_of : List PySem.Str := ["below", "reach", "way"]
theorem sc_way_of : FnScope N_way_of ["below", "reach"] (defScope s_way_of) := ⟨rfl, rfl, rfl, by decide +kernel, rfl, by decide +kernel, by decide +kernel⟩
theorem c_way_of {P : Program} {w : World} {K : Frag} {mg : Str → Option Value} {base : Heap} (T : Fx K mg) : Cal P w K mg base "way_of" 1 (spF mg (arL eI (arV eI (ar0 (K := K)))) (fun g => m_way_of g.1 g.2.1) (rtN (eI (K := K)))) := by
  obtain ⟨fd, F⟩ : ∃ fd, FunD K "way_of" "way_of" (defArgs s_way_of) (defBody s_way_of) (defScope s_way_of) [] [] (He.ga K "way_of") fd := T.def_ 0
  refine cal_mk F (fn_ok F sc_way_of (fun g => rfl) ?_) (T.glo 0) (fun _ _ _ _ _ _ us hl => match us, hl with | [_, _], _ => rfl)
  intro cdv Ao outer s H E Z Qr D g am hR hN
  obtain ⟨below, reach, _⟩ := g
  change BJ _ Z Qr D ⟨[.bor eI below, .val eI reach, .any], []⟩ (defBody s_way_of) (m_way_of below reach)
  refine bj_own (i := 2) am (fj_lst (en := eI) ij_nil) (fun way_1 => ?_)
  change BJ _ _ _ _ ⟨[.bor eI below, .val eI reach, .own 0], [.lst none eI way_1]⟩ _ _
  refine bj_whiles (S := Int × (List Int)) (sps := fun (s2 : Int × (List Int)) => ⟨[.bor eI below, .val eI s2.1, .own 0], [.lst none eI s2.2]⟩) am fuel ((reach, way_1)) (le_mk (ks := [0]) (.cons .bor (.cons .val (.cons (.own rfl) .nil))) (.keep rfl (.nil))) (fun s2 => (tj_cmp (cj_ne_p scI (ej_var (i := 1)) (ej_neg_p ej_int)))) (fun s2 Q6 D7 hN3 => ?_) (fun s2 => ?_)
  · change BJ _ _ _ _ ⟨[.bor eI below, .val eI s2.1, .own 0], [.lst none eI s2.2]⟩ _ _
    refine bj_append_p (i := 2) (o := 0) rfl rfl (ej_var (i := 1)) (fun way_4 => ?_)
    change BJ _ _ _ _ ⟨[.bor eI below, .val eI s2.1, .own 0], [.lst none eI way_4]⟩ _ _
    refine bj_asg (i := 1) am (ej_ix_p (lj_bor (i := 0)) (ej_var (i := 1))) (fun reach_5 => ?_)
    change BJ _ _ _ _ ⟨[.bor eI below, .val eI reach_5, .own 0], [.lst none eI way_4]⟩ _ _
    exact bj_weak (le_mk (ks := [0]) (.cons .bor (.cons .val (.cons (.own rfl) .nil))) (.keep rfl (.nil))) (bj_nil hN3 ((reach_5, way_4)))
  · change BJ _ _ _ _ ⟨[.bor eI below, .val eI s2.1, .own 0], [.lst none eI s2.2]⟩ _ _
    exact bj_retO (i := 2) (k := 0) hR
def N__law_cell_at : List PySem.Str := ["script", "k"]
theorem sc__law_cell_at : FnScope N__law_cell_at ["script", "k"] (defScope s__law_cell_at) := ⟨rfl, rfl, rfl, by decide +kernel, rfl, by decide +kernel, by decide +kernel⟩
theorem c__law_cell_at {P : Program} {w : World} {K : Frag} {mg : Str → Option Value} {base : Heap} (T : Fx K mg) : Cal P w K mg base "_law_cell_at" 1 (spF mg (arL eI (arV eI (ar0 (K := K)))) (fun g => m_law_cell_at g.1 g.2.1) (rtV (eI (K := K)))) := by
  obtain ⟨fd, F⟩ : ∃ fd, FunD K "_law_cell_at" "_law_cell_at" (defArgs s__law_cell_at) (defBody s__law_cell_at) (defScope s__law_cell_at) [] [] (He.ga K "_law_cell_at") fd := T.def_ 2
  have b_len : mg "len" = none := T.free 13
  refine cal_mk F (fn_ok F sc__law_cell_at (fun g => rfl) ?_) (T.glo 2) (fun _ _ _ _ _ _ us hl => match us, hl with | [_, _], _ => rfl)
  intro cdv Ao outer s H E Z Qr D g am hR hN
  obtain ⟨script, k, _⟩ := g
  change BJ _ Z Qr D ⟨[.bor eI script, .val eI k], []⟩ (defBody s__law_cell_at) (m_law_cell_at script k)
  refine bj_ifr_p (tj_cmp (cj_lt_p (ej_var (i := 1)) (ej_len_p b_len (lj_bor (i := 0))))) (fun n1 => ?_) ?_
  · change BJ _ _ _ _ ⟨[.bor eI script, .val eI k], []⟩ _ _
    exact bj_ret hR (ej_ix_p (lj_bor (i := 0)) (ej_var (i := 1)))
  · change BJ _ _ _ _ ⟨[.bor eI script, .val eI k], []⟩ _ _
    exact bj_ret hR ej_int
def N__law_whole : List PySem.Str := ["found"]
theorem sc__law_whole : FnScope N__law_whole ["found"] (defScope s__law_whole) := ⟨rfl, rfl, rfl, by decide +kernel, rfl, by decide +kernel, by decide +kernel⟩
theorem c__law_whole {P : Program} {w : World} {K : Frag} {mg : Str → Option Value} {base : Heap} (T : Fx K mg) : Cal P w K mg base "_law_whole" 1 (spF mg (arV eI (ar0 (K := K))) (fun g => m_law_whole g.1) (rtV (eB (K := K)))) := by
  obtain ⟨fd, F⟩ : ∃ fd, FunD K "_law_whole" "_law_whole" (defArgs s__law_whole) (defBody s__law_whole) (defScope s__law_whole) [] [] (He.ga K "_law_whole") fd := T.def_ 3
  have b_bool : mg "bool" = none := T.free 10
  have b_int : mg "int" = none := T.free 11
  have b_isinstance : mg "isinstance" = none := T.free 12
  refine cal_mk F (fn_ok F sc__law_whole (fun g => rfl) ?_) (T.glo 3) (fun _ _ _ _ _ _ us hl => match us, hl with | [_], _ => rfl)
  intro cdv Ao outer s H E Z Qr D g am hR hN
  obtain ⟨found, _⟩ := g
  change BJ _ Z Qr D ⟨[.val eI found], []⟩ (defBody s__law_whole) (m_law_whole found)
  exact bj_ret hR (ej_and_p (ej_isi_p tyI b_isinstance b_int boot_int (by decide +kernel) (ej_var (i := 0))) (ej_one (ej_not_p (ej_isi_p tyI b_isinstance b_bool boot_bool (by decide +kernel) (ej_var (i := 0))))))
def N__law_pebble : List PySem.Str := ["cell", "k", "mark"]
theorem sc__law_pebble : FnScope N__law_pebble ["cell", "k"] (defScope s__law_pebble) := ⟨rfl, rfl, rfl, by decide +kernel, rfl, by decide +kernel, by decide +kernel⟩
theorem c__law_pebble {P : Program} {w : World} {K : Frag} {mg : Str → Option Value} {base : Heap} (T : Fx K mg) : Cal P w K mg base "_law_pebble" 1 (spF mg (arV eI (arV eI (ar0 (K := K)))) (fun g => m_law_pebble g.1 g.2.1) (rtV (eI (K := K)))) := by
  obtain ⟨fd, F⟩ : ∃ fd, FunD K "_law_pebble" "_law_pebble" (defArgs s__law_pebble) (defBody s__law_pebble) (defScope s__law_pebble) [] [] (He.ga K "_law_pebble") fd := T.def_ 4
  refine cal_mk F (fn_ok F sc__law_pebble (fun g => rfl) ?_) (T.glo 4) (fun _ _ _ _ _ _ us hl => match us, hl with | [_, _], _ => rfl)
  intro cdv Ao outer s H E Z Qr D g am hR hN
  obtain ⟨cell, k, _⟩ := g
  change BJ _ Z Qr D ⟨[.val eI cell, .val eI k, .any], []⟩ (defBody s__law_pebble) (m_law_pebble cell k)
  refine bj_asg (i := 2) am (ej_add (ej_mul (ej_add_p (ej_mod_lp (ej_var (i := 0)) ej_int) ej_int) (ej_add (ej_mul_p ej_int (ej_var (i := 1))) ej_int)) (ej_mul_p ej_int (ej_var (i := 1)))) (fun mark_7 => ?_)
  change BJ _ _ _ _ ⟨[.val eI cell, .val eI k, .val eI mark_7], []⟩ _ _
  exact bj_ret hR (ej_div_l (ej_mod_l (ej_pow_p 3 (ej_var (i := 2))) ej_int) ej_int)
def N_above_of : List PySem.Str := ["below", "reach", "top"]
theorem sc_above_of : FnScope N_above_of ["below", "reach"] (defScope s_above_of) := ⟨rfl, rfl, rfl, by decide +kernel, rfl, by decide +kernel, by decide +kernel⟩
theorem c_above_of {P : Program} {w : World} {K : Frag} {mg : Str → Option Value} {base : Heap} (T : Fx K mg) : Cal P w K mg base "above_of" 2 (spF mg (arL eI (arV eI (ar0 (K := K)))) (fun g => m_above_of g.1 g.2.1) (rtN (eI (K := K)))) := by
  obtain ⟨fd, F⟩ : ∃ fd, FunD K "above_of" "above_of" (defArgs s_above_of) (defBody s_above_of) (defScope s_above_of) [] [] (He.ga K "above_of") fd := T.def_ 1
  have c_way_of := c_way_of (P := P) (w := w) (base := base) T
  have b_len : mg "len" = none := T.free 13
  have b_range : mg "range" = none := T.free 16
  refine cal_mk F (fn_ok F sc_above_of (fun g => rfl) ?_) (T.glo 1) (fun _ _ _ _ _ _ us hl => match us, hl with | [_, _], _ => rfl)
  intro cdv Ao outer s H E Z Qr D g am hR hN
  obtain ⟨below, reach, _⟩ := g
  change BJ _ Z Qr D ⟨[.bor eI below, .val eI reach, .any], []⟩ (defBody s_above_of) (m_above_of below reach)
  exact bj_retF hR (fj_lcif (bd := fun (y1 : Int) sl => (sl.set 2 (.val eI y1))) (en := eI) (en' := eI) (own := [("top", 2)]) (is := [2]) am (blkOk_by (N := N_above_of) (sc := defScope s_above_of) (by decide +kernel)) (by exact (sj_range1_p b_range (ej_len_p b_len (lj_bor (i := 0))))) (by exact fun s1 H1 C1 cl1 fp1 => (gj_name (i := 2) (am.blk s1 H1 C1 cl1 fp1).nd)) (by exact fun y1 s1 H1 C1 cl1 fp1 => (tj_cmp (cj_in flI (ej_var (i := 1)) (lj_fj (fj_call_p (mf := (fun (g : (List Int) × Int × Unit) => m_way_of g.1 g.2.1)) (g := (below, y1, ())) (am.blk s1 H1 C1 cl1 fp1) c_way_of (by decide) (aj_lst_p (lj_bor (i := 0)) (aj_val_p (ej_var (i := 2)) aj_nil))))))) (by exact fun y1 s1 H1 C1 cl1 fp1 => (ej_var (i := 2))))
def N__law_pebbles : List PySem.Str := ["cell", "many", "k"]
theorem sc__law_pebbles : FnScope N__law_pebbles ["cell", "many"] (defScope s__law_pebbles) := ⟨rfl, rfl, rfl, by decide +kernel, rfl, by decide +kernel, by decide +kernel⟩
theorem c__law_pebbles {P : Program} {w : World} {K : Frag} {mg : Str → Option Value} {base : Heap} (T : Fx K mg) : Cal P w K mg base "_law_pebbles" 2 (spF mg (arV eI (arV eI (ar0 (K := K)))) (fun g => m_law_pebbles g.1 g.2.1) (rtN (eI (K := K)))) := by
  obtain ⟨fd, F⟩ : ∃ fd, FunD K "_law_pebbles" "_law_pebbles" (defArgs s__law_pebbles) (defBody s__law_pebbles) (defScope s__law_pebbles) [] [] (He.ga K "_law_pebbles") fd := T.def_ 5
  have c__law_pebble := c__law_pebble (P := P) (w := w) (base := base) T
  have b_range : mg "range" = none := T.free 16
  refine cal_mk F (fn_ok F sc__law_pebbles (fun g => rfl) ?_) (T.glo 5) (fun _ _ _ _ _ _ us hl => match us, hl with | [_, _], _ => rfl)
  intro cdv Ao outer s H E Z Qr D g am hR hN
  obtain ⟨cell, many, _⟩ := g
  change BJ _ Z Qr D ⟨[.val eI cell, .val eI many, .any], []⟩ (defBody s__law_pebbles) (m_law_pebbles cell many)
  exact bj_retF hR (fj_lc (bd := fun (y1 : Int) sl => (sl.set 2 (.val eI y1))) (en := eI) (en' := eI) (own := [("k", 2)]) (is := [2]) am (blkOk_by (N := N__law_pebbles) (sc := defScope s__law_pebbles) (by decide +kernel)) (by exact (sj_range1_p b_range (ej_var (i := 1)))) (by exact fun s1 H1 C1 cl1 fp1 => (gj_name (i := 2) (am.blk s1 H1 C1 cl1 fp1).nd)) (by exact fun y1 s1 H1 C1 cl1 fp1 => (ej_call_p (mf := (fun (g : Int × Int × Unit) => m_law_pebble g.1 g.2.1)) (g := (cell, y1, ())) (am.blk s1 H1 C1 cl1 fp1) c__law_pebble (by decide) (aj_val_p (ej_var (i := 0)) (aj_val_p (ej_var (i := 2)) aj_nil)))))
def N__law_river : List PySem.Str := ["xs", "cell", "order", "onward", "k", "place", "at", "found"]
theorem sc__law_river : FnScope N__law_river ["xs", "cell"] (defScope s__law_river) := ⟨rfl, rfl, rfl, by decide +kernel, rfl, by decide +kernel, by decide +kernel⟩
theorem c__law_river {P : Program} {w : World} {K : Frag} {mg : Str → Option Value} {base : Heap} (T : Fx K mg) : Cal P w K mg base "_law_river" 2 (spF mg (arL eI (arV eI (ar0 (K := K)))) (fun g => m_law_river g.1 g.2.1) (rtN (eI (K := K)))) := by
  obtain ⟨fd, F⟩ : ∃ fd, FunD K "_law_river" "_law_river" (defArgs s__law_river) (defBody s__law_river) (defScope s__law_river) [] [] (He.ga K "_law_river") fd := T.def_ 6
  have c__law_pebble := c__law_pebble (P := P) (w := w) (base := base) T
  have b_len : mg "len" = none := T.free 13
  have b_range : mg "range" = none := T.free 16
  refine cal_mk F (fn_ok F sc__law_river (fun g => rfl) ?_) (T.glo 6) (fun _ _ _ _ _ _ us hl => match us, hl with | [_, _], _ => rfl)
  intro cdv Ao outer s H E Z Qr D g am hR hN
  obtain ⟨xs, cell, _⟩ := g
  change BJ _ Z Qr D ⟨[.bor eI xs, .val eI cell, .any, .any, .any, .any, .any, .any], []⟩ (defBody s__law_river) (m_law_river xs cell)
  refine bj_own (i := 2) am (fj_lst (en := eI) (ij_cons_p ej_int ij_nil)) (fun order_1 => ?_)
  change BJ _ _ _ _ ⟨[.bor eI xs, .val eI cell, .own 0, .any, .any, .any, .any, .any], [.lst none eI order_1]⟩ _ _
  refine bj_own (i := 3) am (fj_lst (en := eI) (ij_cons_p (ej_neg_p ej_int) ij_nil)) (fun onward_2 => ?_)
  change BJ _ _ _ _ ⟨[.bor eI xs, .val eI cell, .own 0, .own 1, .any, .any, .any, .any], [.lst none eI order_1, .lst none eI onward_2]⟩ _ _
  refine bj_fors (S := (List Int) × (List Int)) (is := [4]) (sps := fun (s3 : (List Int) × (List Int)) => ⟨[.bor eI xs, .val eI cell, .own 0, .own 1, .any, .any, .any, .any], [.lst none eI s3.1, .lst none eI s3.2]⟩) am ((order_1, onward_2)) (sj_range1_p b_range (ej_len_p b_len (lj_bor (i := 0)))) (gj_name (i := 4) am.nd) (le_mk (ks := [0, 1]) (.cons .bor (.cons .val (.cons (.own rfl) (.cons (.own rfl) (.cons .any (.cons .any (.cons .any (.cons .any .nil)))))))) (.keep rfl (.keep rfl (.nil)))) (fun Z zx y4 s3 Q67 D68 hN5 => ?_) (fun s3 => ?_)
  · have am := am.zx zx
    change BJ _ _ _ _ ⟨[.bor eI xs, .val eI cell, .own 0, .own 1, .val eI y4, .any, .any, .any], [.lst none eI s3.1, .lst none eI s3.2]⟩ _ _
    refine bj_insert (i := 2) (o := 0) rfl rfl (ej_mod (ej_call_p (mf := (fun (g : Int × Int × Unit) => m_law_pebble g.1 g.2.1)) (g := (cell, y4, ())) am c__law_pebble (by decide) (aj_val_p (ej_var (i := 1)) (aj_val_p (ej_var (i := 4)) aj_nil))) (ej_add_p (ej_var (i := 4)) ej_int)) (ej_add_p (ej_var (i := 4)) ej_int) (fun order_9 => ?_)
    change BJ _ _ _ _ ⟨[.bor eI xs, .val eI cell, .own 0, .own 1, .val eI y4, .any, .any, .any], [.lst none eI order_9, .lst none eI s3.2]⟩ _ _
    refine bj_ifs (S := (List Int)) (sps := fun (s15 : (List Int)) => ⟨[.bor eI xs, .val eI cell, .own 0, .own 1, .val eI y4, .any, .any, .any], [.lst none eI order_9, .lst none eI s15]⟩) (tj_cmp (cj_eq scI (ej_mod_l (ej_ix_p (lj_bor (i := 0)) (ej_var (i := 4))) ej_int) ej_int)) (fun s15 => ?_) (fun Q33 D34 hN16 => ?_) (fun Q33 D34 hN16 => ?_)
    · change BJ _ _ _ _ ⟨[.bor eI xs, .val eI cell, .own 0, .own 1, .val eI y4, .any, .any, .any], [.lst none eI order_9, .lst none eI s15]⟩ _ _
      exact bj_weak (le_mk (ks := [0, 1]) (.cons .bor (.cons .val (.cons (.own rfl) (.cons (.own rfl) (.cons .any (.cons .any (.cons .any (.cons .any .nil)))))))) (.keep rfl (.keep rfl (.nil)))) (bj_nil hN5 ((order_9, s15)))
    · change BJ _ _ _ _ ⟨[.bor eI xs, .val eI cell, .own 0, .own 1, .val eI y4, .any, .any, .any], [.lst none eI order_9, .lst none eI s3.2]⟩ _ _
      refine bj_append_p (i := 3) (o := 1) rfl rfl (ej_neg_p ej_int) (fun onward_17 => ?_)
      change BJ _ _ _ _ ⟨[.bor eI xs, .val eI cell, .own 0, .own 1, .val eI y4, .any, .any, .any], [.lst none eI order_9, .lst none eI onward_17]⟩ _ _
      exact bj_weak (le_mk (ks := [0, 1]) (.cons .bor (.cons .val (.cons (.own rfl) (.cons (.own rfl) (.cons .val (.cons .any (.cons .any (.cons .any .nil)))))))) (.keep rfl (.keep rfl (.nil)))) (bj_nil hN16 onward_17)
    · change BJ _ _ _ _ ⟨[.bor eI xs, .val eI cell, .own 0, .own 1, .val eI y4, .any, .any, .any], [.lst none eI order_9, .lst none eI s3.2]⟩ _ _
      refine bj_ifs (S := (List Int)) (sps := fun (s22 : (List Int)) => ⟨[.bor eI xs, .val eI cell, .own 0, .own 1, .val eI y4, .any, .any, .any], [.lst none eI order_9, .lst none eI s22]⟩) (tj_cmp (cj_eq scI (ej_mod_l (ej_div_l (ej_ix_p (lj_bor (i := 0)) (ej_var (i := 4))) ej_int) ej_int) ej_int)) (fun s22 => ?_) (fun Q30 D31 hN23 => ?_) (fun Q30 D31 hN23 => ?_)
      · change BJ _ _ _ _ ⟨[.bor eI xs, .val eI cell, .own 0, .own 1, .val eI y4, .any, .any, .any], [.lst none eI order_9, .lst none eI s22]⟩ _ _
        exact bj_weak (le_mk (ks := [0, 1]) (.cons .bor (.cons .val (.cons (.own rfl) (.cons (.own rfl) (.cons .val (.cons .any (.cons .any (.cons .any .nil)))))))) (.keep rfl (.keep rfl (.nil)))) (bj_nil hN16 s22)
      · change BJ _ _ _ _ ⟨[.bor eI xs, .val eI cell, .own 0, .own 1, .val eI y4, .any, .any, .any], [.lst none eI order_9, .lst none eI s3.2]⟩ _ _
        refine bj_append_p (i := 3) (o := 1) rfl rfl (ej_var (i := 4)) (fun onward_24 => ?_)
        change BJ _ _ _ _ ⟨[.bor eI xs, .val eI cell, .own 0, .own 1, .val eI y4, .any, .any, .any], [.lst none eI order_9, .lst none eI onward_24]⟩ _ _
        exact bj_weak (le_mk (ks := [0, 1]) (.cons .bor (.cons .val (.cons (.own rfl) (.cons (.own rfl) (.cons .val (.cons .any (.cons .any (.cons .any .nil)))))))) (.keep rfl (.keep rfl (.nil)))) (bj_nil hN23 onward_24)
      · change BJ _ _ _ _ ⟨[.bor eI xs, .val eI cell, .own 0, .own 1, .val eI y4, .any, .any, .any], [.lst none eI order_9, .lst none eI s3.2]⟩ _ _
        refine bj_append (i := 3) (o := 1) rfl rfl (ej_mod (ej_div_l (ej_ix_p (lj_bor (i := 0)) (ej_var (i := 4))) ej_int) (ej_add_p (ej_var (i := 4)) ej_int)) (fun onward_28 => ?_)
        change BJ _ _ _ _ ⟨[.bor eI xs, .val eI cell, .own 0, .own 1, .val eI y4, .any, .any, .any], [.lst none eI order_9, .lst none eI onward_28]⟩ _ _
        exact bj_weak (le_mk (ks := [0, 1]) (.cons .bor (.cons .val (.cons (.own rfl) (.cons (.own rfl) (.cons .val (.cons .any (.cons .any (.cons .any .nil)))))))) (.keep rfl (.keep rfl (.nil)))) (bj_nil hN23 onward_28)
  · change BJ _ _ _ _ ⟨[.bor eI xs, .val eI cell, .own 0, .own 1, .any, .any, .any, .any], [.lst none eI s3.1, .lst none eI s3.2]⟩ _ _
    refine bj_frz (k := 0) (en := eI) rfl ?_
    change BJ _ _ _ _ ⟨[.bor eI xs, .val eI cell, .val (eL eI) s3.1, .own 1, .any, .any, .any, .any], [.dead, .lst none eI s3.2]⟩ _ _
    refine bj_frz (k := 1) (en := eI) rfl ?_
    change BJ _ _ _ _ ⟨[.bor eI xs, .val eI cell, .val (eL eI) s3.1, .val (eL eI) s3.2, .any, .any, .any, .any], [.dead, .dead]⟩ _ _
    refine bj_own (i := 5) am (fj_rep_p (mj_fj (fj_lst (en := eI) (ij_cons_p ej_int ij_nil))) (ej_len_p b_len (lj_ej (ej_var (i := 2))))) (fun place_36 => ?_)
    change BJ _ _ _ _ ⟨[.bor eI xs, .val eI cell, .val (eL eI) s3.1, .val (eL eI) s3.2, .any, .own 2, .any, .any], [.dead, .dead, .lst none eI place_36]⟩ _ _
    refine bj_fors (S := (List Int)) (is := [6]) (sps := fun (s37 : (List Int)) => ⟨[.bor eI xs, .val eI cell, .val (eL eI) s3.1, .val (eL eI) s3.2, .any, .own 0, .any, .any], [.lst none eI s37]⟩) am place_36 (sj_range1_p b_range (ej_len_p b_len (lj_ej (ej_var (i := 2))))) (gj_name (i := 6) am.nd) (le_mk (ks := [2]) (.cons .bor (.cons .val (.cons .val (.cons .val (.cons .any (.cons (.own rfl) (.cons .any (.cons .any .nil)))))))) (.keep rfl (.nil))) (fun Z zx y38 s37 Q64 D65 hN39 => ?_) (fun s37 => ?_)
    · have am := am.zx zx
      change BJ _ _ _ _ ⟨[.bor eI xs, .val eI cell, .val (eL eI) s3.1, .val (eL eI) s3.2, .any, .own 0, .val eI y38, .any], [.lst none eI s37]⟩ _ _
      refine bj_seti (i := 5) (o := 0) rfl rfl (ej_var (i := 6)) (ej_ix_p (lj_ej (ej_var (i := 2))) (ej_var (i := 6))) (fun place_41 => ?_)
      change BJ _ _ _ _ ⟨[.bor eI xs, .val eI cell, .val (eL eI) s3.1, .val (eL eI) s3.2, .any, .own 0, .val eI y38, .any], [.lst none eI place_41]⟩ _ _
      exact bj_weak (le_mk (ks := [0]) (.cons .bor (.cons .val (.cons .val (.cons .val (.cons .any (.cons (.own rfl) (.cons .any (.cons .any .nil)))))))) (.keep rfl (.nil))) (bj_nil hN39 place_41)
    · change BJ _ _ _ _ ⟨[.bor eI xs, .val eI cell, .val (eL eI) s3.1, .val (eL eI) s3.2, .any, .own 0, .any, .any], [.lst none eI s37]⟩ _ _
      refine bj_frz (k := 0) (en := eI) rfl ?_
      change BJ _ _ _ _ ⟨[.bor eI xs, .val eI cell, .val (eL eI) s3.1, .val (eL eI) s3.2, .any, .val (eL eI) s37, .any, .any], [.dead]⟩ _ _
      refine bj_own (i := 7) am (fj_rep_p (mj_fj (fj_lst (en := eI) (ij_cons_p (ej_neg_p ej_int) ij_nil))) (ej_len_p b_len (lj_ej (ej_var (i := 2))))) (fun found_44 => ?_)
      change BJ _ _ _ _ ⟨[.bor eI xs, .val eI cell, .val (eL eI) s3.1, .val (eL eI) s3.2, .any, .val (eL eI) s37, .any, .own 1], [.dead, .lst none eI found_44]⟩ _ _
      refine bj_fors (S := (List Int)) (is := [4]) (sps := fun (s45 : (List Int)) => ⟨[.bor eI xs, .val eI cell, .val (eL eI) s3.1, .val (eL eI) s3.2, .any, .val (eL eI) s37, .any, .own 0], [.lst none eI s45]⟩) am found_44 (sj_range2_p b_range ej_int (ej_len_p b_len (lj_ej (ej_var (i := 2))))) (gj_name (i := 4) am.nd) (le_mk (ks := [1]) (.cons .bor (.cons .val (.cons .val (.cons .val (.cons .any (.cons .val (.cons .any (.cons (.own rfl) .nil)))))))) (.keep rfl (.nil))) (fun Z zx y46 s45 Q61 D62 hN47 => ?_) (fun s45 => ?_)
      · have am := am.zx zx
        change BJ _ _ _ _ ⟨[.bor eI xs, .val eI cell, .val (eL eI) s3.1, .val (eL eI) s3.2, .val eI y46, .val (eL eI) s37, .any, .own 0], [.lst none eI s45]⟩ _ _
        refine bj_ifs (S := (List Int)) (sps := fun (s51 : (List Int)) => ⟨[.bor eI xs, .val eI cell, .val (eL eI) s3.1, .val (eL eI) s3.2, .val eI y46, .val (eL eI) s37, .any, .own 0], [.lst none eI s51]⟩) (tj_cmp (cj_ne scI (ej_ix_p (lj_ej (ej_var (i := 3))) (ej_var (i := 4))) (ej_neg_p ej_int))) (fun s51 => ?_) (fun Q58 D59 hN52 => ?_) (fun Q58 D59 hN52 => ?_)
        · change BJ _ _ _ _ ⟨[.bor eI xs, .val eI cell, .val (eL eI) s3.1, .val (eL eI) s3.2, .val eI y46, .val (eL eI) s37, .any, .own 0], [.lst none eI s51]⟩ _ _
          exact bj_weak (le_mk (ks := [0]) (.cons .bor (.cons .val (.cons .val (.cons .val (.cons .any (.cons .val (.cons .any (.cons (.own rfl) .nil)))))))) (.keep rfl (.nil))) (bj_nil hN47 s51)
        · change BJ _ _ _ _ ⟨[.bor eI xs, .val eI cell, .val (eL eI) s3.1, .val (eL eI) s3.2, .val eI y46, .val (eL eI) s37, .any, .own 0], [.lst none eI s45]⟩ _ _
          refine bj_seti (i := 7) (o := 0) rfl rfl (ej_ix (lj_ej (ej_var (i := 5))) (ej_ix_p (lj_ej (ej_var (i := 3))) (ej_var (i := 4)))) (ej_ix_p (lj_ej (ej_var (i := 5))) (ej_var (i := 4))) (fun found_55 => ?_)
          change BJ _ _ _ _ ⟨[.bor eI xs, .val eI cell, .val (eL eI) s3.1, .val (eL eI) s3.2, .val eI y46, .val (eL eI) s37, .any, .own 0], [.lst none eI found_55]⟩ _ _
          exact bj_weak (le_mk (ks := [0]) (.cons .bor (.cons .val (.cons .val (.cons .val (.cons .val (.cons .val (.cons .any (.cons (.own rfl) .nil)))))))) (.keep rfl (.nil))) (bj_nil hN52 found_55)
        · change BJ _ _ _ _ ⟨[.bor eI xs, .val eI cell, .val (eL eI) s3.1, .val (eL eI) s3.2, .val eI y46, .val (eL eI) s37, .any, .own 0], [.lst none eI s45]⟩ _ _
          exact bj_weak (le_mk (ks := [0]) (.cons .bor (.cons .val (.cons .val (.cons .val (.cons .val (.cons .val (.cons .any (.cons (.own rfl) .nil)))))))) (.keep rfl (.nil))) (bj_nil hN52 s45)
      · change BJ _ _ _ _ ⟨[.bor eI xs, .val eI cell, .val (eL eI) s3.1, .val (eL eI) s3.2, .any, .val (eL eI) s37, .any, .own 0], [.lst none eI s45]⟩ _ _
        exact bj_retO (i := 7) (k := 0) hR
def N__law_numbers : List PySem.Str := ["found", "due", "k"]
theorem sc__law_numbers : FnScope N__law_numbers ["found", "due"] (defScope s__law_numbers) := ⟨rfl, rfl, rfl, by decide +kernel, rfl, by decide +kernel, by decide +kernel⟩
theorem c__law_numbers {P : Program} {w : World} {K : Frag} {mg : Str → Option Value} {base : Heap} (T : Fx K mg) : Cal P w K mg base "_law_numbers" 2 (spF mg (arL eI (arL eI (ar0 (K := K)))) (fun g => m_law_numbers g.1 g.2.1) (rtV (eB (K := K)))) := by
  obtain ⟨fd, F⟩ : ∃ fd, FunD K "_law_numbers" "_law_numbers" (defArgs s__law_numbers) (defBody s__law_numbers) (defScope s__law_numbers) [] [] (He.ga K "_law_numbers") fd := T.def_ 7
  have c__law_whole := c__law_whole (P := P) (w := w) (base := base) T
  have b_isinstance : mg "isinstance" = none := T.free 12
  have b_len : mg "len" = none := T.free 13
  have b_list : mg "list" = none := T.free 14
  have b_range : mg "range" = none := T.free 16
  refine cal_mk F (fn_ok F sc__law_numbers (fun g => rfl) ?_) (T.glo 7) (fun _ _ _ _ _ _ us hl => match us, hl with | [_, _], _ => rfl)
  intro cdv Ao outer s H E Z Qr D g am hR hN
  obtain ⟨found, due, _⟩ := g
  change BJ _ Z Qr D ⟨[.bor eI found, .bor eI due, .any], []⟩ (defBody s__law_numbers) (m_law_numbers found due)
  refine bj_ifr_p (tj_wj (wj_or_p (tj_not_p (tj_val (ej_isiL_p b_isinstance b_list boot_list (by decide +kernel) (lj_bor (i := 0))))) (wj_or1 (tj_cmp (cj_ne_p scI (ej_len_p b_len (lj_bor (i := 0))) (ej_len_p b_len (lj_bor (i := 1)))))))) (fun n16 => ?_) ?_
  · change BJ _ _ _ _ ⟨[.bor eI found, .bor eI due, .any], []⟩ _ _
    exact bj_ret hR ej_bl
  · change BJ _ _ _ _ ⟨[.bor eI found, .bor eI due, .any], []⟩ _ _
    refine bj_for (S := Unit) (is := [2]) (sps := fun (s1 : Unit) => ⟨[.bor eI found, .bor eI due, .any], []⟩) am (()) (sj_range1_p b_range (ej_len_p b_len (lj_bor (i := 1)))) (gj_name (i := 2) am.nd) (le_mk (ks := []) (.cons .bor (.cons .bor (.cons .any .nil))) (.nil)) (fun Z zx y2 s1 next5 nx bk hN3 hB4 => ?_) (fun s1 => ?_)
    · have am := am.zx zx
      have hR := hR.zx zx
      change BJ _ _ _ _ ⟨[.bor eI found, .bor eI due, .val eI y2], []⟩ _ _
      refine bj_ifr (tj_wj (wj_or (tj_not (tj_val (ej_call am c__law_whole (by decide) (aj_val (ej_ix_p (lj_bor (i := 0)) (ej_var (i := 2))) aj_nil)))) (wj_or1 (tj_cmp (cj_ne scI (ej_ix_p (lj_bor (i := 0)) (ej_var (i := 2))) (ej_ix_p (lj_bor (i := 1)) (ej_var (i := 2)))))))) (fun n13 => ?_) ?_
      · change BJ _ _ _ _ ⟨[.bor eI found, .bor eI due, .val eI y2], []⟩ _ _
        exact bj_ret hR ej_bl
      · change BJ _ _ _ _ ⟨[.bor eI found, .bor eI due, .val eI y2], []⟩ _ _
        exact bj_weak (le_mk (ks := []) (.cons .bor (.cons .bor (.cons .any .nil))) (.nil)) (bj_nil hN3 (()))
    · change BJ _ _ _ _ ⟨[.bor eI found, .bor eI due, .any], []⟩ _ _
      exact bj_ret hR ej_bl
def N__law_is_way : List PySem.Str := ["found", "river", "place", "told"]
theorem sc__law_is_way : FnScope N__law_is_way ["found", "river", "place"] (defScope s__law_is_way) := ⟨rfl, rfl, rfl, by decide +kernel, rfl, by decide +kernel, by decide +kernel⟩
theorem c__law_is_way {P : Program} {w : World} {K : Frag} {mg : Str → Option Value} {base : Heap} (T : Fx K mg) : Cal P w K mg base "_law_is_way" 2 (spF mg (arL eI (arL eI (arV eI (ar0 (K := K))))) (fun g => m_law_is_way g.1 g.2.1 g.2.2.1) (rtV (eB (K := K)))) := by
  obtain ⟨fd, F⟩ : ∃ fd, FunD K "_law_is_way" "_law_is_way" (defArgs s__law_is_way) (defBody s__law_is_way) (defScope s__law_is_way) [] [] (He.ga K "_law_is_way") fd := T.def_ 8
  have c__law_whole := c__law_whole (P := P) (w := w) (base := base) T
  have b_isinstance : mg "isinstance" = none := T.free 12
  have b_list : mg "list" = none := T.free 14
  refine cal_mk F (fn_ok F sc__law_is_way (fun g => rfl) ?_) (T.glo 8) (fun _ _ _ _ _ _ us hl => match us, hl with | [_, _, _], _ => rfl)
  intro cdv Ao outer s H E Z Qr D g am hR hN
  obtain ⟨found, river, place, _⟩ := g
  change BJ _ Z Qr D ⟨[.bor eI found, .bor eI river, .val eI place, .any], []⟩ (defBody s__law_is_way) (m_law_is_way found river place)
  refine bj_ifr_p (tj_not_p (tj_val (ej_isiL_p b_isinstance b_list boot_list (by decide +kernel) (lj_bor (i := 0))))) (fun n11 => ?_) ?_
  · change BJ _ _ _ _ ⟨[.bor eI found, .bor eI river, .val eI place, .any], []⟩ _ _
    exact bj_ret hR ej_bl
  · change BJ _ _ _ _ ⟨[.bor eI found, .bor eI river, .val eI place, .any], []⟩ _ _
    refine bj_for_p (S := Int) (is := [3]) (sps := fun (s1 : Int) => ⟨[.bor eI found, .bor eI river, .val eI s1, .any], []⟩) am place (sj_list (kj_bor (i := 0))) (gj_name (i := 3) am.nd) (le_mk (ks := []) (.cons .bor (.cons .bor (.cons .val (.cons .any .nil)))) (.nil)) (fun Z zx y2 s1 next5 nx bk hN3 hB4 => ?_) (fun s1 => ?_)
    · have am := am.zx zx
      have hR := hR.zx zx
      change BJ _ _ _ _ ⟨[.bor eI found, .bor eI river, .val eI s1, .val eI y2], []⟩ _ _
      refine bj_ifr (tj_wj (wj_or (tj_not (tj_val (ej_call_p (mf := (fun (g : Int × Unit) => m_law_whole g.1)) (g := (y2, ())) am c__law_whole (by decide) (aj_val_p (ej_var (i := 3)) aj_nil)))) (wj_or_p (tj_cmp (cj_eq_p scI (ej_var (i := 2)) (ej_neg_p ej_int))) (wj_or1 (tj_cmp (cj_ne_p scI (ej_var (i := 3)) (ej_var (i := 2)))))))) (fun n9 => ?_) ?_
      · change BJ _ _ _ _ ⟨[.bor eI found, .bor eI river, .val eI s1, .val eI y2], []⟩ _ _
        exact bj_ret hR ej_bl
      · change BJ _ _ _ _ ⟨[.bor eI found, .bor eI river, .val eI s1, .val eI y2], []⟩ _ _
        refine bj_asg (i := 2) am (ej_ix_p (lj_bor (i := 1)) (ej_var (i := 2))) (fun place_8 => ?_)
        change BJ _ _ _ _ ⟨[.bor eI found, .bor eI river, .val eI place_8, .val eI y2], []⟩ _ _
        exact bj_weak (le_mk (ks := []) (.cons .bor (.cons .bor (.cons .val (.cons .any .nil)))) (.nil)) (bj_nil hN3 place_8)
    · change BJ _ _ _ _ ⟨[.bor eI found, .bor eI river, .val eI s1, .any], []⟩ _ _
      exact bj_ret hR (ej_cmp (cj_eq_p scI (ej_var (i := 2)) (ej_neg_p ej_int)))
def N_law : List PySem.Str := ["script", "first", "xs", "river", "due", "top", "place", "handed", "k", "cell"]
theorem sc_law : FnScope N_law ["script"] (defScope s_law) := ⟨rfl, rfl, rfl, by decide +kernel, rfl, by decide +kernel, by decide +kernel⟩
theorem ok_law {P : Program} {w : World} {K : Frag} {mg : Str → Option Value} {base : Heap} (T : Fx K mg) {fd : FuncData} (F : FunD K "law" "law" (defArgs s_law) (defBody s_law) (defScope s_law) [] [] (He.ga K "law") fd) : FnOk P w K mg base (L2.CX P w) 3 (He.ga K "law") fd ["script"] (spF mg (arL eI (ar0 (K := K))) (fun g => m_law g.1) (rtV (eB (K := K)))) := by
  have c__law_cell_at := c__law_cell_at (P := P) (w := w) (base := base) T
  have c__law_is_way := c__law_is_way (P := P) (w := w) (base := base) T
  have c__law_numbers := c__law_numbers (P := P) (w := w) (base := base) T
  have c__law_pebbles := c__law_pebbles (P := P) (w := w) (base := base) T
  have c__law_river := c__law_river (P := P) (w := w) (base := base) T
  have c_above_of := c_above_of (P := P) (w := w) (base := base) T
  have c_way_of := c_way_of (P := P) (w := w) (base := base) T
  have b_len : mg "len" = none := T.free 13
  have b_list : mg "list" = none := T.free 14
  have b_min : mg "min" = none := T.free 15
  have b_range : mg "range" = none := T.free 16
  refine fn_ok F sc_law (fun g => rfl) ?_
  intro cdv Ao outer s H E Z Qr D g am hR hN
  obtain ⟨script, _⟩ := g
  have hU := am.hr.units
  change BJ _ Z Qr D ⟨[.bor eI script, .any, .any, .any, .any, .any, .any, .any, .any, .any], []⟩ (defBody s_law) (m_law script)
  refine bj_asg (i := 1) am (ej_call_p (mf := (fun (g : (List Int) × Int × Unit) => m_law_cell_at g.1 g.2.1)) (g := (script, (0 : Int), ())) am c__law_cell_at (by decide) (aj_lst_p (lj_bor (i := 0)) (aj_val_p ej_int aj_nil))) (fun first_1 => ?_)
  change BJ _ _ _ _ ⟨[.bor eI script, .val eI first_1, .any, .any, .any, .any, .any, .any, .any, .any], []⟩ _ _
  refine bj_lcF_pp (i := 2) (bd := fun (y2 : Int) sl => (sl.set 9 (.val eI y2))) (en := eI) (en' := eI) (own := [("cell", 9)]) (is := [9]) am (blkOk_by (N := N_law) (sc := defScope s_law) (by decide +kernel)) (by exact (sj_list (kj_fj (fj_slice_p (lj_bor (i := 0)) (oj_some_p ej_int) (oj_some_p ej_int))))) (by exact fun s1 H1 C1 cl1 fp1 => (gj_name (i := 9) (am.blk s1 H1 C1 cl1 fp1).nd)) (by exact fun y2 s1 H1 C1 cl1 fp1 => (ej_mod_lp (ej_var (i := 9)) (ej_pow_l 9 ej_int))) (fun xs_3 => ?_)
  change BJ _ _ _ _ ⟨[.bor eI script, .val eI first_1, .val (eL eI) xs_3, .any, .any, .any, .any, .any, .any, .any], []⟩ _ _
  refine bj_ifs_p (S := (List Int)) (sps := fun (s4 : (List Int)) => ⟨[.bor eI script, .val eI first_1, .val (eL eI) s4, .any, .any, .any, .any, .any, .any, .any], []⟩) (tj_cmp (cj_eq_p scI (ej_mod_lp (ej_var (i := 1)) ej_int) ej_int)) (fun s4 => ?_) (fun Q65 D66 hN5 => ?_) (fun Q65 D66 hN5 => ?_)
  · change BJ _ _ _ _ ⟨[.bor eI script, .val eI first_1, .val (eL eI) s4, .any, .any, .any, .any, .any, .any, .any], []⟩ _ _
    refine bj_asg (i := 3) am (ej_fj (fj_call am c__law_river (by decide) (aj_lst (lj_ej (ej_var (i := 2))) (aj_val (ej_call_p (mf := (fun (g : (List Int) × Int × Unit) => m_law_cell_at g.1 g.2.1)) (g := (script, (2 : Int), ())) am c__law_cell_at (by decide) (aj_lst_p (lj_bor (i := 0)) (aj_val_p ej_int aj_nil))) aj_nil)))) (fun river_15 => ?_)
    change BJ _ _ _ _ ⟨[.bor eI script, .val eI first_1, .val (eL eI) s4, .val (eL eI) river_15, .any, .any, .any, .any, .any, .any], []⟩ _ _
    refine bj_lcLL (i := 4) (bd := fun (y16 : Int) sl => (sl.set 8 (.val eI y16))) (en := eI) (en' := eI) (own := [("k", 8)]) (is := [8]) am (blkOk_by (N := N_law) (sc := defScope s_law) (by decide +kernel)) (by exact (sj_range1_p b_range (ej_len_p b_len (lj_ej (ej_var (i := 3)))))) (by exact fun s1 H1 C1 cl1 fp1 => (gj_name (i := 8) (am.blk s1 H1 C1 cl1 fp1).nd)) (by exact fun y16 s1 H1 C1 cl1 fp1 => (fj_lst (en := eI) ij_nil)) (fun due_18 => ?_)
    change BJ _ _ _ _ ⟨[.bor eI script, .val eI first_1, .val (eL eI) s4, .val (eL eI) river_15, .own 0, .any, .any, .any, .any, .any], [.lls none eI due_18]⟩ _ _
    refine bj_fors (S := (List (List Int))) (is := [5]) (sps := fun (s19 : (List (List Int))) => ⟨[.bor eI script, .val eI first_1, .val (eL eI) s4, .val (eL eI) river_15, .own 0, .any, .any, .any, .any, .any], [.lls none eI s19]⟩) am due_18 (sj_range1_p b_range (ej_len_p b_len (lj_ej (ej_var (i := 3))))) (gj_name (i := 5) am.nd) (le_mk (ks := [0]) (.cons .bor (.cons .val (.cons .val (.cons .val (.cons (.own rfl) (.cons .any (.cons .any (.cons .any (.cons .any (.cons .any .nil)))))))))) (.keep rfl (.nil))) (fun Z zx y20 s19 Q62 D63 hN21 => ?_) (fun s19 => ?_)
    · have am := am.zx zx
      change BJ _ _ _ _ ⟨[.bor eI script, .val eI first_1, .val (eL eI) s4, .val (eL eI) river_15, .own 0, .val eI y20, .any, .any, .any, .any], [.lls none eI s19]⟩ _ _
      refine bj_asg (i := 6) am (ej_var (i := 5)) (fun place_23 => ?_)
      change BJ _ _ _ _ ⟨[.bor eI script, .val eI first_1, .val (eL eI) s4, .val (eL eI) river_15, .own 0, .val eI y20, .val eI place_23, .any, .any, .any], [.lls none eI s19]⟩ _ _
      refine bj_whiles (S := (List (List Int)) × Int) (sps := fun (s24 : (List (List Int)) × Int) => ⟨[.bor eI script, .val eI first_1, .val (eL eI) s4, .val (eL eI) river_15, .own 0, .val eI y20, .val eI s24.2, .any, .any, .any], [.lls none eI s24.1]⟩) am fuel ((s19, place_23)) (le_mk (ks := [0]) (.cons .bor (.cons .val (.cons .val (.cons .val (.cons (.own rfl) (.cons .val (.cons .val (.cons .any (.cons .any (.cons .any .nil)))))))))) (.keep rfl (.nil))) (fun s24 => (tj_cmp (cj_ne_p scI (ej_var (i := 6)) (ej_neg_p ej_int)))) (fun s24 Q32 D33 hN25 => ?_) (fun s24 => ?_)
      · change BJ _ _ _ _ ⟨[.bor eI script, .val eI first_1, .val (eL eI) s4, .val (eL eI) river_15, .own 0, .val eI y20, .val eI s24.2, .any, .any, .any], [.lls none eI s24.1]⟩ _ _
        refine bj_llsub (i := 4) (o := 0) rfl rfl (ej_var (i := 6)) (ej_var (i := 5)) (fun due_26 => ?_)
        change BJ _ _ _ _ ⟨[.bor eI script, .val eI first_1, .val (eL eI) s4, .val (eL eI) river_15, .own 0, .val eI y20, .val eI s24.2, .any, .any, .any], [.lls none eI due_26]⟩ _ _
        refine bj_asg (i := 6) am (ej_ix_p (lj_ej (ej_var (i := 3))) (ej_var (i := 6))) (fun place_31 => ?_)
        change BJ _ _ _ _ ⟨[.bor eI script, .val eI first_1, .val (eL eI) s4, .val (eL eI) river_15, .own 0, .val eI y20, .val eI place_31, .any, .any, .any], [.lls none eI due_26]⟩ _ _
        exact bj_weak (le_mk (ks := [0]) (.cons .bor (.cons .val (.cons .val (.cons .val (.cons (.own rfl) (.cons .val (.cons .val (.cons .any (.cons .any (.cons .any .nil)))))))))) (.keep rfl (.nil))) (bj_nil hN25 ((due_26, place_31)))
      · change BJ _ _ _ _ ⟨[.bor eI script, .val eI first_1, .val (eL eI) s4, .val (eL eI) river_15, .own 0, .val eI y20, .val eI s24.2, .any, .any, .any], [.lls none eI s24.1]⟩ _ _
        exact bj_weak (le_mk (ks := [0]) (.cons .bor (.cons .val (.cons .val (.cons .val (.cons (.own rfl) (.cons .any (.cons .any (.cons .any (.cons .any (.cons .any .nil)))))))))) (.keep rfl (.nil))) (bj_nil hN21 s24.1)
    · change BJ _ _ _ _ ⟨[.bor eI script, .val eI first_1, .val (eL eI) s4, .val (eL eI) river_15, .own 0, .any, .any, .any, .any, .any], [.lls none eI s19]⟩ _ _
      refine bj_frzLL (k := 0) (en := eI) rfl ?_
      change BJ _ _ _ _ ⟨[.bor eI script, .val eI first_1, .val (eL eI) s4, .val (eL eI) river_15, .val (eL (eL eI)) s19, .any, .any, .any, .any, .any], [.dead]⟩ _ _
      refine bj_asg (i := 7) am (ej_fj (fj_list b_list (lj_ej (ej_var (i := 3))))) (fun handed_34 => ?_)
      change BJ _ _ _ _ ⟨[.bor eI script, .val eI first_1, .val (eL eI) s4, .val (eL eI) river_15, .val (eL (eL eI)) s19, .any, .any, .val (eL eI) handed_34, .any, .any], [.dead]⟩ _ _
      refine bj_for (S := Unit) (is := [6]) (sps := fun (s35 : Unit) => ⟨[.bor eI script, .val eI first_1, .val (eL eI) s4, .val (eL eI) river_15, .val (eL (eL eI)) s19, .any, .any, .val (eL eI) handed_34, .any, .any], []⟩) am (()) (sj_range1_p b_range (ej_len_p b_len (lj_ej (ej_var (i := 3))))) (gj_name (i := 6) am.nd) (le_mk (ks := []) (.cons .bor (.cons .val (.cons .val (.cons .val (.cons .val (.cons .any (.cons .any (.cons .val (.cons .any (.cons .any .nil)))))))))) (.nil)) (fun Z zx y36 s35 next39 nx bk hN37 hB38 => ?_) (fun s35 => ?_)
      · have am := am.zx zx
        have hR := hR.zx zx
        change BJ _ _ _ _ ⟨[.bor eI script, .val eI first_1, .val (eL eI) s4, .val (eL eI) river_15, .val (eL (eL eI)) s19, .any, .val eI y36, .val (eL eI) handed_34, .any, .any], []⟩ _ _
        refine bj_ifr (tj_not (tj_val (ej_call am c__law_is_way (by decide) (aj_lst (lj_fj (fj_call_p (mf := (fun (g : (List Int) × Int × Unit) => m_way_of g.1 g.2.1)) (g := (handed_34, y36, ())) am c_way_of (by decide) (aj_lst_p (lj_ej (ej_var (i := 7))) (aj_val_p (ej_var (i := 6)) aj_nil)))) (aj_lst_p (lj_ej (ej_var (i := 3))) (aj_val_p (ej_var (i := 6)) aj_nil)))))) (fun n44 => ?_) ?_
        · change BJ _ _ _ _ ⟨[.bor eI script, .val eI first_1, .val (eL eI) s4, .val (eL eI) river_15, .val (eL (eL eI)) s19, .any, .val eI y36, .val (eL eI) handed_34, .any, .any], []⟩ _ _
          exact bj_ret hR ej_bl
        · change BJ _ _ _ _ ⟨[.bor eI script, .val eI first_1, .val (eL eI) s4, .val (eL eI) river_15, .val (eL (eL eI)) s19, .any, .val eI y36, .val (eL eI) handed_34, .any, .any], []⟩ _ _
          exact bj_weak (le_mk (ks := []) (.cons .bor (.cons .val (.cons .val (.cons .val (.cons .val (.cons .any (.cons .any (.cons .val (.cons .any (.cons .any .nil)))))))))) (.nil)) (bj_nil hN37 (()))
      · change BJ _ _ _ _ ⟨[.bor eI script, .val eI first_1, .val (eL eI) s4, .val (eL eI) river_15, .val (eL (eL eI)) s19, .any, .any, .val (eL eI) handed_34, .any, .any], []⟩ _ _
        refine bj_for (S := Unit) (is := [8]) (sps := fun (s46 : Unit) => ⟨[.bor eI script, .val eI first_1, .val (eL eI) s4, .val (eL eI) river_15, .val (eL (eL eI)) s19, .any, .any, .val (eL eI) handed_34, .any, .any], []⟩) am (()) (sj_range1_p b_range (ej_min2_p b_min ej_int (ej_len_p b_len (lj_ej (ej_var (i := 3)))))) (gj_name (i := 8) am.nd) (le_mk (ks := []) (.cons .bor (.cons .val (.cons .val (.cons .val (.cons .val (.cons .any (.cons .any (.cons .val (.cons .any (.cons .any .nil)))))))))) (.nil)) (fun Z zx y47 s46 next50 nx bk hN48 hB49 => ?_) (fun s46 => ?_)
        · have am := am.zx zx
          have hR := hR.zx zx
          change BJ _ _ _ _ ⟨[.bor eI script, .val eI first_1, .val (eL eI) s4, .val (eL eI) river_15, .val (eL (eL eI)) s19, .any, .any, .val (eL eI) handed_34, .val eI y47, .any], []⟩ _ _
          refine bj_asg (i := 6) am (ej_mod_p (ej_add_p (ej_div_lp (ej_var (i := 1)) ej_int) (ej_var (i := 8))) (ej_len_p b_len (lj_ej (ej_var (i := 3))))) (fun place_51 => ?_)
          change BJ _ _ _ _ ⟨[.bor eI script, .val eI first_1, .val (eL eI) s4, .val (eL eI) river_15, .val (eL (eL eI)) s19, .any, .val eI place_51, .val (eL eI) handed_34, .val eI y47, .any], []⟩ _ _
          refine bj_ifr (tj_not (tj_val (ej_call am c__law_numbers (by decide) (aj_lst (lj_fj (fj_call_p (mf := (fun (g : (List Int) × Int × Unit) => m_above_of g.1 g.2.1)) (g := (handed_34, place_51, ())) am c_above_of (by decide) (aj_lst_p (lj_ej (ej_var (i := 7))) (aj_val_p (ej_var (i := 6)) aj_nil)))) (aj_lst (lj_ej (ej_ix_p (lj_ej (ej_var (i := 4))) (ej_var (i := 6)))) aj_nil))))) (fun n58 => ?_) ?_
          · change BJ _ _ _ _ ⟨[.bor eI script, .val eI first_1, .val (eL eI) s4, .val (eL eI) river_15, .val (eL (eL eI)) s19, .any, .val eI place_51, .val (eL eI) handed_34, .val eI y47, .any], []⟩ _ _
            exact bj_ret hR ej_bl
          · change BJ _ _ _ _ ⟨[.bor eI script, .val eI first_1, .val (eL eI) s4, .val (eL eI) river_15, .val (eL (eL eI)) s19, .any, .val eI place_51, .val (eL eI) handed_34, .val eI y47, .any], []⟩ _ _
            exact bj_weak (le_mk (ks := []) (.cons .bor (.cons .val (.cons .val (.cons .val (.cons .val (.cons .any (.cons .any (.cons .val (.cons .any (.cons .any .nil)))))))))) (.nil)) (bj_nil hN48 (()))
        · change BJ _ _ _ _ ⟨[.bor eI script, .val eI first_1, .val (eL eI) s4, .val (eL eI) river_15, .val (eL (eL eI)) s19, .any, .any, .val (eL eI) handed_34, .any, .any], []⟩ _ _
          exact bj_ret hR (ej_cmp (cj_eqD_p hU (eqL eqI) (dj_ej (ej_var (i := 7))) (dj_ej (ej_var (i := 3)))))
  · change BJ _ _ _ _ ⟨[.bor eI script, .val eI first_1, .val (eL eI) xs_3, .any, .any, .any, .any, .any, .any, .any], []⟩ _ _
    refine bj_asg (i := 2) am (ej_fj (fj_call am c__law_pebbles (by decide) (aj_val (ej_call_p (mf := (fun (g : (List Int) × Int × Unit) => m_law_cell_at g.1 g.2.1)) (g := (script, (1 : Int), ())) am c__law_cell_at (by decide) (aj_lst_p (lj_bor (i := 0)) (aj_val_p ej_int aj_nil))) (aj_val_p (ej_mod_lp (ej_div_lp (ej_var (i := 1)) ej_int) ej_int) aj_nil)))) (fun xs_9 => ?_)
    change BJ _ _ _ _ ⟨[.bor eI script, .val eI first_1, .val (eL eI) xs_9, .any, .any, .any, .any, .any, .any, .any], []⟩ _ _
    exact bj_weak (le_mk (ks := []) (.cons .bor (.cons .val (.cons .val (.cons .any (.cons .any (.cons .any (.cons .any (.cons .any (.cons .any (.cons .any .nil)))))))))) (.nil)) (bj_nil hN5 xs_9)
  · change BJ _ _ _ _ ⟨[.bor eI script, .val eI first_1, .val (eL eI) xs_3, .any, .any, .any, .any, .any, .any, .any], []⟩ _ _
    exact bj_weak (le_mk (ks := []) (.cons .bor (.cons .val (.cons .val (.cons .any (.cons .any (.cons .any (.cons .any (.cons .any (.cons .any (.cons .any .nil)))))))))) (.nil)) (bj_nil hN5 xs_3)

end Hd
open PySem PySem.W PySem.Calls PyProof.Rows
theorem lawWit : (OpenLaw.row PySem.Challenge.rw_sluice_k02_ways_and_above).toRowW.promised := by w_witness2
theorem lawWalk (hmath : ∀ ns : List Int, ns.length ≤ 63 → (∀ z ∈ ns, Builtin.Int.intBits z ≤ 1048576) → Mr.m_law ns = .ok true) : WalkO (view (OpenLaw.row PySem.Challenge.rw_sluice_k02_ways_and_above).prog [11]) Hd.loose (PySem.W.XL (view (OpenLaw.row PySem.Challenge.rw_sluice_k02_ways_and_above).prog [11]) []) Hd.hk.says (OpenLaw.row PySem.Challenge.rw_sluice_k02_ways_and_above).toRowW (HandSHeadRun.topDef (OpenLaw.row PySem.Challenge.rw_sluice_k02_ways_and_above).prog 11) [] (fun f vs => PySem.call f vs) := by
  refine Wk.walk_Z (l := PySem.Challenge.rw_sluice_k02_ways_and_above) (n := 63) (k := 3) (x := "script") rfl (by decide) (by kernel_rfl) ⟨rfl, by decide, by decide⟩ ?F hmath
  intro w mg fa h Y G hmg0
  obtain ⟨K, KX, c⟩ := Y
  have hmg : mg ("law" : PySem.Str) = some (.ref fa) := by
    have e : (HandSHeadRun.topDef (OpenLaw.row PySem.Challenge.rw_sluice_k02_ways_and_above).prog 11).name = ("law" : PySem.Str) := by kernel_rfl
    rw [← e]
    exact hmg0
  have T : Hd.Fx K mg := ⟨h, KX, G, congrArg Prod.snd c, congrArg Prod.fst c⟩
  obtain ⟨fd, F⟩ : ∃ fd, L2.FunD K "law" "law" (L2.defArgs Hd.s_law) (L2.defBody Hd.s_law) (L2.defScope Hd.s_law) [] [] (He.ga K "law") fd := T.def_ 9
  have e := hmg.symm.trans (T.glo 9)
  have e2 : fa = He.ga K "law" := by
    injection e with e
    injection e
  subst e2
  have b := L2.FunD.bindsA (ps := ["script"]) F fun _ _ _ _ _ _ us hl => match us, hl with | [_], _ => rfl
  exact ⟨K, fd, KX, fun s v => b s [v] rfl, fun base _ _ => Hd.ok_law T F⟩
theorem lawEnd (hmath : ∀ ns : List Int, ns.length ≤ 63 → (∀ z ∈ ns, Builtin.Int.intBits z ≤ 1048576) → Mr.m_law ns = .ok true) : PySem.Challenge.rw_sluice_k02_ways_and_above.Holds := by
  w_on; o_law
  exact HandSHeadRun.head_any (r := OpenLaw.row PySem.Challenge.rw_sluice_k02_ways_and_above) (q := view (OpenLaw.row PySem.Challenge.rw_sluice_k02_ways_and_above).prog [11]) (H := Hd.hk) (ob := Hd.ob) (M := 920) (loose := Hd.loose) (d := HandSHeadRun.topDef (OpenLaw.row PySem.Challenge.rw_sluice_k02_ways_and_above).prog 11) (kwd := []) Hd.ob_eq
    (by kernel_rfl) (fun s => by kernel_rfl) Hd.run (by kernel_rfl) (by kernel_rfl) (by kernel_rfl) (by rfl) (by first | assumption | decide +kernel) (by decide +kernel) ⟨rfl, rfl, rfl, rfl, rfl, by decide +kernel⟩ lawWit (lawWalk hmath)
theorem PySem.Challenge.cw_sluice_k02_ways_and_above_holds : PySem.Challenge.rw_sluice_k02_ways_and_above.Holds := by
  exact lawEnd fun ns _ hb => Mr.law_ok ns hb
