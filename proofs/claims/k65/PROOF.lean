import PyProof.Rows.All
import Wide.All
import OpenK.AllK
import Wide.FinOn
import HandS.ForMost
import HandS.Zip
import HandS.Wide
import HandS.WideMore
import HandS.WideBits
import HandS.Flow
import KE.SortData
import KE.DataEq
import KE.DataCmp
import KE.DataMinMax
import KE.DataIsa
import KE.DataFind
import HandS.RaiseMore
import PyProof.ListStr
import HandS.Style
import HandS.Set
import PyProof.Rows.RuleB_pow
import HandS.Codes
import HandS.Ends
import PySem.Challenge.RW_wordhall_k65_whole_joined_strings
set_option Elab.async false
set_option linter.all false
set_option maxRecDepth 100000
set_option maxHeartbeats 1000000
set_option autoImplicit false
namespace TL
open PySem PySem.Spec PyProof.Rows L2
/-! ## 1. owned things, environments -/
inductive O where
  | sh (d : PyData)
  | lst (ds : List PyData)
  | nest (os : List O)
inductive W where
  | o (x : O)
  | al (i : Nat)
abbrev Env := List (Option O)
mutual
@[simp] def O.fg : O → PyData
  | .sh d => d
  | .lst ds => .list ds
  | .nest os => .list (O.fgs os)
@[simp] def O.fgs : List O → List PyData
  | [] => []
  | o :: os => O.fg o :: O.fgs os
end
@[simp] def view (ρ : Env) : W → PyData
  | .o x => x.fg
  | .al i => match ρ[i]? with
    | some (some x) => x.fg
    | _ => .none
mutual
def Rep (K : PySem.W.Frag) (R H : Hp) : O → V → List Addr → Prop
  | .sh d, v, fp => Dp K R v d ∧ fp = []
  | .lst ds, v, fp => ∃ a xs, v = .ref a ∧ H a = some (.lst xs) ∧ DpAll K R xs ds ∧ fp = [a]
  | .nest os, v, fp => ∃ a xs f, v = .ref a ∧ H a = some (.lst xs) ∧ Reps K R H os xs f ∧ fp = a :: f
def Reps (K : PySem.W.Frag) (R H : Hp) : List O → List V → List Addr → Prop
  | [], xs, fp => xs = [] ∧ fp = []
  | o :: os, xs, fp => ∃ x r f1 f2, xs = x :: r ∧ Rep K R H o x f1 ∧ Reps K R H os r f2 ∧ fp = f1 ++ f2
end
theorem same_seqT {K : PySem.W.Frag} {H H' : Hp} {a : Addr} {xs : List V} (e : Same H H') (h : SqT K H a xs) : SqT K H' a xs := by
  rcases h with (h | ⟨o, h⟩) | h
  · exact .inl (.inl (e _ _ h))
  · exact .inl (.inr ⟨o, e _ _ h⟩)
  · exact .inr h
section
variable {K : PySem.W.Frag} {R R' H H' : Hp}
mutual
theorem dp_mono (m : Same R R') : ∀ (d : PyData) (v : V), Dp K R v d → Dp K R' v d
  | .none, _, h => by cases h; exact .non
  | .bool b, _, h => by cases h; exact .bl b
  | .int i, _, h => by cases h; exact .int i
  | .str x, _, h => by cases h; exact .str x
  | .list ds, _, h => by
    cases h with
    | lst hs ha => exact .lst (m.seq hs) (dpAll_mono m ds _ ha)
  | .tuple ds, _, h => by
    cases h with
    | tup hs ha => exact .tup (same_seqT m hs) (dpAll_mono m ds _ ha)
  | .dict _, _, h => by cases h
theorem dpAll_mono (m : Same R R') : ∀ (ds : List PyData) (vs : List V), DpAll K R vs ds → DpAll K R' vs ds
  | [], _, h => by cases h; exact .nil
  | d :: ds, _, h => by
    cases h with
    | cons h1 h2 => exact .cons (dp_mono m d _ h1) (dpAll_mono m ds _ h2)
end
theorem dpAll_app {xs ys : List V} {ds es : List PyData} (h : DpAll K R xs ds) (h' : DpAll K R ys es) : DpAll K R (xs ++ ys) (ds ++ es) := by
  induction ds generalizing xs with
  | nil => cases h; exact h'
  | cons d ds ih =>
    cases h with
    | cons h1 h2 => exact .cons h1 (ih h2)
theorem dpAll_len {xs : List V} {ds : List PyData} (h : DpAll K R xs ds) : xs.length = ds.length := by
  induction ds generalizing xs with
  | nil => cases h; rfl
  | cons d ds ih =>
    cases h with
    | cons h1 h2 => simp [ih h2]
theorem dpAll_get {xs : List V} {ds : List PyData} (h : DpAll K R xs ds) {i : Nat} {x : V} (e : xs[i]? = some x) : ∃ d, ds[i]? = some d ∧ Dp K R x d := by
  induction ds generalizing xs i with
  | nil => cases h; simp at e
  | cons d ds ih =>
    cases h with
    | cons h1 h2 =>
      cases i with
      | zero => simp at e; subst e; exact ⟨d, rfl, h1⟩
      | succ i => simpa using ih h2 (by simpa using e)
theorem dpAll_get' {xs : List V} {ds : List PyData} (h : DpAll K R xs ds) {i : Nat} {d : PyData} (e : ds[i]? = some d) : ∃ x, xs[i]? = some x ∧ Dp K R x d := by
  have l := dpAll_len h
  have hi : i < ds.length := (List.getElem?_eq_some_iff.mp e).1
  obtain ⟨d', e', q⟩ := dpAll_get h (List.getElem?_eq_getElem (by omega : i < xs.length))
  rw [e] at e'; cases e'
  exact ⟨_, List.getElem?_eq_getElem (by omega), q⟩
mutual
theorem rep_mono (m : Same R R') : ∀ (x : O) (v : V) (fp : List Addr), Rep K R H x v fp → (∀ a o, a ∈ fp → H a = some o → H' a = some o) → Rep K R' H' x v fp
  | .sh d, v, fp, h, k => ⟨dp_mono m d v h.1, h.2⟩
  | .lst ds, v, fp, h, k => by
    obtain ⟨a, xs, rfl, e, q, rfl⟩ := h
    exact ⟨a, xs, rfl, k a _ (by simp) e, dpAll_mono m _ _ q, rfl⟩
  | .nest os, v, fp, h, k => by
    obtain ⟨a, xs, f, rfl, e, q, rfl⟩ := h
    exact ⟨a, xs, f, rfl, k a _ (by simp) e, reps_mono m os xs f q fun a o h => k a o (by simp [h]), rfl⟩
theorem reps_mono (m : Same R R') : ∀ (os : List O) (xs : List V) (fp : List Addr), Reps K R H os xs fp → (∀ a o, a ∈ fp → H a = some o → H' a = some o) → Reps K R' H' os xs fp
  | [], xs, fp, h, k => h
  | o :: os, xs, fp, h, k => by
    obtain ⟨x, r, f1, f2, rfl, h1, h2, rfl⟩ := h
    exact ⟨x, r, f1, f2, rfl, rep_mono m o x f1 h1 (fun a o h => k a o (by simp [h])), reps_mono m os r f2 h2 (fun a o h => k a o (by simp [h])), rfl⟩
end
mutual
theorem rep_on : ∀ (x : O) (v : V) (fp : List Addr), Rep K R H x v fp → ∀ a ∈ fp, H a ≠ none
  | .sh d, v, fp, h, a, ha => by rw [h.2] at ha; cases ha
  | .lst ds, v, fp, h, a, ha => by
    obtain ⟨b, xs, rfl, e, q, rfl⟩ := h
    simp at ha; subst ha; rw [e]; simp
  | .nest os, v, fp, h, a, ha => by
    obtain ⟨b, xs, f, rfl, e, q, rfl⟩ := h
    rcases List.mem_cons.mp ha with rfl | ha
    · rw [e]; simp
    · exact reps_on os xs f q a ha
theorem reps_on : ∀ (os : List O) (xs : List V) (fp : List Addr), Reps K R H os xs fp → ∀ a ∈ fp, H a ≠ none
  | [], xs, fp, h, a, ha => by rw [h.2] at ha; cases ha
  | o :: os, xs, fp, h, a, ha => by
    obtain ⟨x, r, f1, f2, rfl, h1, h2, rfl⟩ := h
    rcases List.mem_append.mp ha with ha | ha
    · exact rep_on o x f1 h1 a ha
    · exact reps_on os r f2 h2 a ha
end
/-- where all that it owns is shared, it is data -/
theorem sqL_of {a : Addr} {xs : List V} (h : H a = some (.lst xs)) : SqL K H a xs := .inl (.inl h)
mutual
theorem rep_dp (m : Same R R') : ∀ (x : O) (v : V) (fp : List Addr), Rep K R H x v fp → (∀ a o, a ∈ fp → H a = some o → R' a = some o) → Dp K R' v x.fg
  | .sh d, v, fp, h, k => dp_mono m d v h.1
  | .lst ds, v, fp, h, k => by
    obtain ⟨a, xs, rfl, e, q, rfl⟩ := h
    exact .lst (sqL_of (k a _ (by simp) e)) (dpAll_mono m _ _ q)
  | .nest os, v, fp, h, k => by
    obtain ⟨a, xs, f, rfl, e, q, rfl⟩ := h
    exact .lst (sqL_of (k a _ (by simp) e)) (reps_dp m os xs f q fun a o h => k a o (by simp [h]))
theorem reps_dp (m : Same R R') : ∀ (os : List O) (xs : List V) (fp : List Addr), Reps K R H os xs fp → (∀ a o, a ∈ fp → H a = some o → R' a = some o) → DpAll K R' xs (O.fgs os)
  | [], xs, fp, h, k => by rw [h.1]; exact .nil
  | o :: os, xs, fp, h, k => by
    obtain ⟨x, r, f1, f2, rfl, h1, h2, rfl⟩ := h
    exact .cons (rep_dp m o x f1 h1 (fun a o h => k a o (by simp [h]))) (reps_dp m os r f2 h2 (fun a o h => k a o (by simp [h])))
end
end
/-! ## 2. where one stands -/
structure G (K : PySem.W.Frag) (R H : Hp) (σ : L2.St) (ρ : Env) (fps : Nat → List Addr) : Prop where
  sub : Same R H
  rep : ∀ i x, ρ[i]? = some (some x) → ∃ v, σ[i]? = some (some v) ∧ Rep K R H x v (fps i)
  nd : ∀ i, (fps i).Nodup
  dj : ∀ i j a, i ≠ j → a ∈ fps i → a ∉ fps j
  off : ∀ i a, a ∈ fps i → R a = none
  on : ∀ i a, a ∈ fps i → H a ≠ none
  len : σ.length = ρ.length
/-- a pure step -/
structure PStep (R H R' H' : Hp) : Prop where
  h : Same H H'
  r : Same R R'
  fr : ∀ a, R' a ≠ none → R a ≠ none ∨ H a = none
  sub : Same R' H'
theorem same_nn {H H' : Hp} (e : Same H H') {a : Addr} (h : H a ≠ none) : H' a ≠ none := by
  cases q : H a with
  | none => exact absurd q h
  | some o => rw [e a o q]; simp
theorem PStep.refl {R H : Hp} (s : Same R H) : PStep R H R H := ⟨Same.refl _, Same.refl _, fun _ h => .inl h, s⟩
theorem PStep.trans {R H R1 H1 R2 H2 : Hp} (a : PStep R H R1 H1) (b : PStep R1 H1 R2 H2) : PStep R H R2 H2 :=
  ⟨a.h.trans b.h, a.r.trans b.r, fun c h => by
    rcases b.fr c h with h | h
    · exact a.fr c h
    · exact .inr (a.h.free h), b.sub⟩
/-- more is shared: what was new -/
def share (R H : Hp) (fv : List Addr) : Hp := fun a => if a ∈ fv then H a else R a
theorem share_in {R H : Hp} {fv : List Addr} {a : Addr} (h : a ∈ fv) : share R H fv a = H a := if_pos h
theorem share_out {R H : Hp} {fv : List Addr} {a : Addr} (h : a ∉ fv) : share R H fv a = R a := if_neg h
theorem share_mono {R H : Hp} {fv : List Addr} (s : Same R H) : Same R (share R H fv) := fun a o e => by
  by_cases h : a ∈ fv
  · rw [share_in h]; exact s a o e
  · rw [share_out h]; exact e
theorem share_sub {R H : Hp} {fv : List Addr} (s : Same R H) : Same (share R H fv) H := fun a o e => by
  by_cases h : a ∈ fv
  · rw [share_in h] at e; exact e
  · rw [share_out h] at e; exact s a o e
theorem same_upd {H : Hp} {p : Addr} {o : HO} (h : H p = none) : Same H (upd H p o) := fun b x e => by
  rw [upd_ne (ne_of_none e h)]; exact e
section
variable {K : PySem.W.Frag} {R R' H H' : Hp} {σ : L2.St} {ρ : Env} {fps : Nat → List Addr}
theorem G.step (g : G K R H σ ρ fps) (p : PStep R H R' H') : G K R' H' σ ρ fps where
  sub := p.sub
  rep := fun i x e => by
    obtain ⟨v, e1, r⟩ := g.rep i x e
    exact ⟨v, e1, rep_mono p.r x v _ r fun a o _ q => p.h a o q⟩
  nd := g.nd
  dj := g.dj
  off := fun i a h => by
    cases q : R' a with
    | none => rfl
    | some o =>
      rcases p.fr a (by rw [q]; simp) with z | z
      · exact absurd (g.off i a h) z
      · exact absurd z (g.on i a h)
  on := fun i a h => same_nn p.h (g.on i a h)
  len := g.len
/-- what an expression gives (a pure one) -/
def RW (K : PySem.W.Frag) (R' H' H : Hp) (σ : L2.St) (ρ : Env) : W → V → List Addr → Prop
  | .o x, v, fv => Rep K R' H' x v fv ∧ fv.Nodup ∧ ∀ a ∈ fv, H a = none ∧ R' a = none
  | .al i, v, fv => σ[i]? = some (some v) ∧ (∃ x, ρ[i]? = some (some x)) ∧ fv = []
theorem RW.sh {d : PyData} {v : V} (h : Dp K R' v d) : RW K R' H' H σ ρ (.o (.sh d)) v [] := ⟨⟨h, rfl⟩, List.nodup_nil, fun _ h => nomatch h⟩
theorem RW.dp {R1 H1 H0 : Hp} {w : W} {v : V} {fv : List Addr} (g : G K R1 H1 σ ρ fps) (r : RW K R1 H1 H0 σ ρ w v fv) : Dp K H1 v (view ρ w) := by
  cases w with
  | o x => exact rep_dp g.sub x v fv r.1 fun a o _ e => e
  | al i =>
    obtain ⟨e, ⟨x, ex⟩, _⟩ := r
    obtain ⟨v', e', q⟩ := g.rep i x ex
    rw [e] at e'; cases e'
    show Dp K H1 v (match ρ[i]? with | some (some x) => x.fg | _ => .none)
    rw [ex]
    exact rep_dp g.sub x v _ q fun a o _ e => e
/-- it stays through a further pure step; H0 the heap ahead -/
theorem RW.keep {R1 H1 R2 H2 H0 : Hp} {w : W} {v : V} {fv : List Addr} (r : RW K R1 H1 H0 σ ρ w v fv) (p : PStep R1 H1 R2 H2) : RW K R2 H2 H0 σ ρ w v fv := by
  cases w with
  | o x =>
    obtain ⟨a, b, c⟩ := r
    refine ⟨rep_mono p.r x v fv a fun a o _ q => p.h a o q, b, fun a' ha => ⟨(c a' ha).1, ?_⟩⟩
    cases q : R2 a' with
    | none => rfl
    | some o =>
      rcases p.fr a' (by rw [q]; simp) with z | z
      · exact absurd (c a' ha).2 z
      · exact absurd z (rep_on x v fv a a' ha)
  | al i => exact r
theorem RW.older {R1 H1 H0 H00 : Hp} {w : W} {v : V} {fv : List Addr} (r : RW K R1 H1 H0 σ ρ w v fv) (h : Same H00 H0) : RW K R1 H1 H00 σ ρ w v fv := by
  cases w with
  | o x => exact ⟨r.1, r.2.1, fun a ha => ⟨h.free (r.2.2 a ha).1, (r.2.2 a ha).2⟩⟩
  | al i => exact r
theorem RW.on {R1 H1 H0 : Hp} {w : W} {v : V} {fv : List Addr} (r : RW K R1 H1 H0 σ ρ w v fv) : ∀ a ∈ fv, H1 a ≠ none := by
  cases w with
  | o x => exact rep_on x v fv r.1
  | al i => intro a ha; rw [r.2.2] at ha; cases ha
theorem RW.fresh {R1 H1 H0 : Hp} {w : W} {v : V} {fv : List Addr} (r : RW K R1 H1 H0 σ ρ w v fv) : ∀ a ∈ fv, H0 a = none := by
  cases w with
  | o x => exact fun a ha => (r.2.2 a ha).1
  | al i => intro a ha; rw [r.2.2] at ha; cases ha
/-- may it be shared as it stands -/
@[simp] def canSh (ρ : Env) : W → Prop
  | .o _ => True
  | .al i => ∃ d, ρ[i]? = some (some (.sh d))
/-- a value is made shared -/
theorem RW.freeze {R0 H0 R1 H1 : Hp} {w : W} {v : V} {fv : List Addr} (g : G K R1 H1 σ ρ fps) (p : PStep R0 H0 R1 H1) (r : RW K R1 H1 H0 σ ρ w v fv) (c : canSh ρ w) :
    PStep R0 H0 (share R1 H1 fv) H1 ∧ Dp K (share R1 H1 fv) v (view ρ w) := by
  refine ⟨⟨p.h, p.r.trans (share_mono p.sub), fun a h => ?_, share_sub p.sub⟩, ?_⟩
  · by_cases ha : a ∈ fv
    · exact .inr (r.fresh a ha)
    · rw [share_out ha] at h; exact p.fr a h
  · cases w with
    | o x => exact rep_dp (share_mono p.sub) x v fv r.1 fun a o ha e => by rw [share_in ha]; exact e
    | al i =>
      obtain ⟨d, ed⟩ := c
      obtain ⟨e, _, rfl⟩ := r
      obtain ⟨v', e', q⟩ := g.rep i _ ed
      rw [e] at e'; cases e'
      show Dp K _ v (match ρ[i]? with | some (some x) => x.fg | _ => .none)
      rw [ed]
      exact dp_mono (share_mono p.sub) d v q.1
end
/-! ## 3. pure expressions -/
def PVt (K : PySem.W.Frag) (vl : Env → W) (nd : Env → Prop) : TE := fun σ H Q => ∃ R ρ fps, G K R H σ ρ fps ∧ nd ρ ∧ ∀ v R' H' fv, PStep R H R' H' → RW K R' H' H σ ρ (vl ρ) v fv → Q v H'
abbrev PV (X : Cx) (e : Expr) (vl : Env → W) (nd : Env → Prop) : Prop := PE X e (PVt X.K vl nd)
theorem pe_mono {X : Cx} {e : Expr} {t t' : TE} (h : PE X e t) (m : ∀ σ H Q, t' σ H Q → t σ H Q) : PE X e t' := ⟨fun pins s σ H Q I q => h.run pins s σ H Q I (m σ H Q q)⟩
theorem pt_mono {X : Cx} {e : Expr} {t t' : TT} (h : PT X e t) (m : ∀ σ H Q, t' σ H Q → t σ H Q) : PT X e t' := ⟨fun pins s σ H Q I q => h.run pins s σ H Q I (m σ H Q q)⟩
theorem pa_mono {X : Cx} {e : List Expr} {t t' : TA} (h : PA X e t) (m : ∀ σ H Q, t' σ H Q → t σ H Q) : PA X e t' := ⟨fun pos pins s σ H Q I q => h.run pos pins s σ H Q I (m σ H Q q)⟩
theorem ps_mono {X : Cx} {e : Stmt} {t t' : TS} (h : PS X e t) (m : ∀ D σ H, t' D σ H → t D σ H) : PS X e t' := ⟨fun pins s σ H D I q => h.run pins s σ H D I (m D σ H q)⟩
theorem pss_mono {X : Cx} {e : List Stmt} {t t' : TS} (h : PSs X e t) (m : ∀ D σ H, t' D σ H → t D σ H) : PSs X e t' := ⟨fun pins s σ H D I q => h.run pins s σ H D I (m D σ H q)⟩
/-- what an operator's rule is asked: both values, the last heap -/
theorem two {K : PySem.W.Frag} {va vb : Env → W} {na nb : Env → Prop} {σ : L2.St} {H : Hp} {r : V → V → Hp → Prop}
    (h : ∃ R ρ fps, G K R H σ ρ fps ∧ na ρ ∧ nb ρ ∧ ∀ x y R2 H2 fx fy, PStep R H R2 H2 → G K R2 H2 σ ρ fps → RW K R2 H2 H σ ρ (va ρ) x fx → RW K R2 H2 H σ ρ (vb ρ) y fy → (∀ a ∈ fx, a ∉ fy) → r x y H2) :
    PVt K va na σ H (fun x H1 => PVt K vb nb σ H1 (fun y H2 => r x y H2)) := by
  obtain ⟨R, ρ, fps, g, ha, hb, k⟩ := h
  refine ⟨R, ρ, fps, g, ha, fun x R1 H1 fx p1 r1 => ?_⟩
  refine ⟨R1, ρ, fps, g.step p1, hb, fun y R2 H2 fy p2 r2 => ?_⟩
  exact k x y R2 H2 fx fy (p1.trans p2) (g.step (p1.trans p2)) (r1.keep p2) (r2.older p1.h) fun a h1 h2 => r1.on a h1 (r2.fresh a h2)
end TL
set_option linter.all false
set_option maxRecDepth 100000
set_option maxHeartbeats 1000000
set_option autoImplicit false
namespace TL
open PySem PySem.Spec PyProof.Rows L2
section
variable {K : PySem.W.Frag} {σ : L2.St} {ρ : Env} {fps : Nat → List Addr}
@[simp] def okEl (ρ : Env) : W → Prop
  | .o _ => True
  | .al i => match ρ[i]? with
    | some (some (.nest _)) => False
    | _ => True
theorem RW.moved {R1 R2 H1 H0 : Hp} {w : W} {v : V} {fv : List Addr} (r : RW K R1 H1 H0 σ ρ w v fv) (m : Same R1 R2) (n : ∀ a ∈ fv, R2 a = none) : RW K R2 H1 H0 σ ρ w v fv := by
  cases w with
  | o x => exact ⟨rep_mono m x v fv r.1 fun a o _ q => q, r.2.1, fun a ha => ⟨(r.2.2 a ha).1, n a ha⟩⟩
  | al i => exact r
theorem RW.off {R1 H1 H0 : Hp} {w : W} {v : V} {fv : List Addr} (r : RW K R1 H1 H0 σ ρ w v fv) : ∀ a ∈ fv, R1 a = none := by
  cases w with
  | o x => exact fun a ha => (r.2.2 a ha).2
  | al i => intro a ha; rw [r.2.2] at ha; cases ha
theorem share_step {R0 H0 R1 H1 : Hp} {w : W} {v : V} {fv : List Addr} (p : PStep R0 H0 R1 H1) (r : RW K R1 H1 H0 σ ρ w v fv) : PStep R0 H0 (share R1 H1 fv) H1 :=
  ⟨p.h, p.r.trans (share_mono p.sub), fun a h => by
    by_cases ha : a ∈ fv
    · exact .inr (r.fresh a ha)
    · rw [share_out ha] at h; exact p.fr a h, share_sub p.sub⟩
/-- the items of what is viewed as a list -/
theorem RW.elems {R0 H0 R1 H1 : Hp} {w : W} {v : V} {fv : List Addr} {ds : List PyData} (g0 : G K R0 H0 σ ρ fps) (p : PStep R0 H0 R1 H1) (r : RW K R1 H1 H0 σ ρ w v fv) (e : view ρ w = .list ds) (ok : okEl ρ w) :
    ∃ a xs, v = .ref a ∧ SqL K H1 a xs ∧ DpAll K (share R1 H1 fv) xs ds := by
  have sm : Same R1 (share R1 H1 fv) := share_mono p.sub
  cases w with
  | o x =>
    cases x with
    | sh d =>
      have e' : d = .list ds := e
      subst e'
      obtain ⟨q, rfl⟩ := r.1
      cases q with
      | lst hs ha => exact ⟨_, _, rfl, p.sub.seq hs, dpAll_mono sm _ _ ha⟩
    | lst es =>
      have e' : es = ds := by injection e
      subst e'
      obtain ⟨a, xs, rfl, h, q, rfl⟩ := r.1
      exact ⟨a, xs, rfl, sqL_of h, dpAll_mono sm _ _ q⟩
    | nest os =>
      have e' : O.fgs os = ds := by injection e
      subst e'
      obtain ⟨a, xs, f, rfl, h, q, rfl⟩ := r.1
      exact ⟨a, xs, rfl, sqL_of h, reps_dp sm os xs f q fun b o hb eb => by rw [share_in (List.mem_cons_of_mem _ hb)]; exact eb⟩
  | al i =>
    obtain ⟨e1, ⟨x, ex⟩, rfl⟩ := r
    obtain ⟨v', e2, q⟩ := (g0.step p).rep i x ex
    rw [e1] at e2; cases e2
    have e' : x.fg = .list ds := by
      have e3 : (match ρ[i]? with | some (some x) => x.fg | _ => .none) = PyData.list ds := e
      rw [ex] at e3; exact e3
    have ok' : (match ρ[i]? with | some (some (.nest _)) => False | _ => True) := ok
    rw [ex] at ok'
    cases x with
    | sh d =>
      have e4 : d = .list ds := e'
      subst e4
      cases q.1 with
      | lst hs ha => exact ⟨_, _, rfl, p.sub.seq hs, dpAll_mono sm _ _ ha⟩
    | lst es =>
      have e4 : es = ds := by injection e'
      subst e4
      obtain ⟨a, xs, rfl, h, q, _⟩ := q
      exact ⟨a, xs, rfl, sqL_of h, dpAll_mono sm _ _ q⟩
    | nest os => exact ok'.elim
/-- the items of what is viewed as a tuple -/
theorem RW.elemsT {R0 H0 R1 H1 : Hp} {w : W} {v : V} {fv : List Addr} {ds : List PyData} (g0 : G K R0 H0 σ ρ fps) (p : PStep R0 H0 R1 H1) (r : RW K R1 H1 H0 σ ρ w v fv) (e : view ρ w = .tuple ds) :
    ∃ a xs, v = .ref a ∧ SqT K H1 a xs ∧ DpAll K R1 xs ds := by
  cases w with
  | o x =>
    cases x with
    | sh d =>
      have e' : d = .tuple ds := e
      subst e'
      obtain ⟨q, rfl⟩ := r.1
      cases q with
      | tup hs ha => exact ⟨_, _, rfl, same_seqT p.sub hs, ha⟩
    | lst es => cases e
    | nest os => cases e
  | al i =>
    obtain ⟨e1, ⟨x, ex⟩, rfl⟩ := r
    obtain ⟨v', e2, q⟩ := (g0.step p).rep i x ex
    rw [e1] at e2; cases e2
    have e' : x.fg = .tuple ds := by
      have e3 : (match ρ[i]? with | some (some x) => x.fg | _ => .none) = PyData.tuple ds := e
      rw [ex] at e3; exact e3
    cases x with
    | sh d =>
      have e4 : d = .tuple ds := e'
      subst e4
      cases q.1 with
      | tup hs ha => exact ⟨_, _, rfl, same_seqT p.sub hs, ha⟩
    | lst es => cases e'
    | nest os => cases e'
end
/-! ### atoms -/
def toV : PyData → V
  | .none => .non
  | .bool b => .bl b
  | .int i => .int i
  | .str x => .str x
  | _ => .non
def isAt : PyData → Prop
  | .none | .bool _ | .int _ | .str _ => True
  | _ => False
theorem dp_at {K : PySem.W.Frag} {R : Hp} {d : PyData} (h : isAt d) : Dp K R (toV d) d := by
  cases d with
  | none => exact .non
  | bool b => exact .bl b
  | int i => exact .int i
  | str x => exact .str x
  | list _ => exact h.elim
  | tuple _ => exact h.elim
  | dict _ => exact h.elim
theorem dp_int {K : PySem.W.Frag} {R : Hp} {v : V} {i : Int} (h : Dp K R v (.int i)) : v = .int i := by cases h; rfl
theorem dp_str {K : PySem.W.Frag} {R : Hp} {v : V} {x : Str} (h : Dp K R v (.str x)) : v = .str x := by cases h; rfl
theorem dp_bl {K : PySem.W.Frag} {R : Hp} {v : V} {x : Bool} (h : Dp K R v (.bool x)) : v = .bl x := by cases h; rfl
theorem dp_non {K : PySem.W.Frag} {R : Hp} {v : V} (h : Dp K R v .none) : v = .non := by cases h; rfl
section
variable {X : Cx}
/-! ### names, constants -/
@[simp] def vName (ρ : Env) (i : Nat) : W := match ρ[i]? with
  | some (some (.sh d)) => .o (.sh d)
  | _ => .al i
@[simp] def nName (ρ : Env) (i : Nat) : Prop := ∃ x, ρ[i]? = some (some x)
theorem pv_name (i : Nat) {x : Str} {pos : Pos} (hN : X.N[i]? = some x := by rfl) (hv : Vis X.env.scope x := by first | exact Or.inl rfl | exact Or.inr (Or.inl rfl) | exact Or.inr (Or.inr rfl)) (hd : (x == ("__debug__" : Str)) = false := by decide)
    (hcd : (x == ("__classdict__" : Str)) = false := by decide) : PV X (.Name x pos) (fun ρ => vName ρ i) (fun ρ => nName ρ i) := by
  refine pe_mono (pe_var (i := i) hN hv hd hcd) fun σ H Q ⟨R, ρ, fps, g, ⟨x, ex⟩, k⟩ => ?_
  obtain ⟨v, e, q⟩ := g.rep i x ex
  refine ⟨v, e, k v R H [] (.refl g.sub) ?_⟩
  show RW X.K R H H σ ρ (vName ρ i) v []
  unfold vName
  rw [ex]
  cases x with
  | sh d => exact .sh q.1
  | lst ds => exact ⟨e, ⟨_, ex⟩, rfl⟩
  | nest os => exact ⟨e, ⟨_, ex⟩, rfl⟩
theorem pv_c {e : Expr} {v : V} (d : PyData) (h : PE X e (tC v)) (hd : ∀ R, Dp X.K R v d) : PV X e (fun _ => .o (.sh d)) (fun _ => True) :=
  pe_mono h fun σ H Q ⟨R, ρ, fps, g, _, k⟩ => k v R H [] (.refl g.sub) (.sh (hd R))
theorem pv_int {i j pos} : PV X (.Constant (.int i) j pos) (fun _ => .o (.sh (.int i))) (fun _ => True) := pv_c _ pe_int fun _ => .int i
theorem pv_str {i j pos} : PV X (.Constant (.str i) j pos) (fun _ => .o (.sh (.str i))) (fun _ => True) := pv_c _ pe_str fun _ => .str i
theorem pv_bl {i j pos} : PV X (.Constant (.bool i) j pos) (fun _ => .o (.sh (.bool i))) (fun _ => True) := pv_c _ pe_bl fun _ => .bl i
theorem pv_non {j pos} : PV X (.Constant .none j pos) (fun _ => .o (.sh .none)) (fun _ => True) := pv_c _ pe_non fun _ => .non
/-- a module's constant -/
theorem pv_glob {x : Str} {u : Value} {pos : Pos} (d : PyData) (hm : X.mg x = some u) (hd : isAt d) (r : RelV (toV d) u) (hg : Gl X x := by rfl) (hb : (x == ("__debug__" : Str)) = false := by decide) : PV X (.Name x pos) (fun _ => .o (.sh d)) (fun _ => True) :=
  pv_c _ (pe_glob hg hm r hb) fun _ => dp_at hd
end
/-! ## contracts: what an operator makes of data -/
section
variable {K : PySem.W.Frag}
/-- an operand: it is read as d, its items are shared -/
def Opd (K : PySem.W.Frag) (R H : Hp) (x : V) (d : PyData) : Prop := Dp K H x d ∧ match d with
  | .list ds => ∃ a xs, x = .ref a ∧ SqL K H a xs ∧ DpAll K R xs ds
  | .tuple ds => ∃ a xs, x = .ref a ∧ SqT K H a xs ∧ DpAll K R xs ds
  | _ => True
inductive Opds (K : PySem.W.Frag) (R H : Hp) : List V → List PyData → Prop where
  | nil : Opds K R H [] []
  | cons {x : V} {d : PyData} {xs : List V} {ds : List PyData} : Opd K R H x d → Opds K R H xs ds → Opds K R H (x :: xs) (d :: ds)
def RO (K : PySem.W.Frag) (R' H' H : Hp) (o : O) (v : V) (fv : List Addr) : Prop := Rep K R' H' o v fv ∧ fv.Nodup ∧ ∀ a ∈ fv, H a = none ∧ R' a = none
theorem RO.sh {R' H' H : Hp} {d : PyData} {v : V} (h : Dp K R' v d) : RO K R' H' H (.sh d) v [] := ⟨⟨h, rfl⟩, List.nodup_nil, fun _ h => nomatch h⟩
def Con1 (K : PySem.W.Frag) (r : V → Hp → VK → Prop) (f : PyData → O) (n : PyData → Prop) : Prop :=
  ∀ x d R H Q, Same R H → Opd K R H x d → n d → (∀ v R' H' fv, PStep R H R' H' → RO K R' H' H (f d) v fv → Q v H') → r x H Q
def Con2 (K : PySem.W.Frag) (r : R2) (f : PyData → PyData → O) (n : PyData → PyData → Prop) : Prop :=
  ∀ x y d e R H Q, Same R H → Opd K R H x d → Opd K R H y e → n d e → (∀ v R' H' fv, PStep R H R' H' → RO K R' H' H (f d e) v fv → Q v H') → r x y H Q
def ConC (K : PySem.W.Frag) (r : List V → Hp → VK → Prop) (f : List PyData → O) (n : List PyData → Prop) : Prop :=
  ∀ xs ds R H Q, Same R H → Opds K R H xs ds → n ds → (∀ v R' H' fv, PStep R H R' H' → RO K R' H' H (f ds) v fv → Q v H') → r xs H Q
theorem dp_opd {R H : Hp} {x : V} {d : PyData} (s : Same R H) (h : Dp K R x d) : Opd K R H x d := by
  refine ⟨dp_mono s d x h, ?_⟩
  cases d with
  | list ds => cases h with
    | lst hs ha => exact ⟨_, _, rfl, s.seq hs, ha⟩
  | tuple ds => cases h with
    | tup hs ha => exact ⟨_, _, rfl, same_seqT s hs, ha⟩
  | _ => trivial
theorem Opd.mono {R H R' H' : Hp} {x : V} {d : PyData} (h : Opd K R H x d) (r : Same R R') (s : Same H H') : Opd K R' H' x d := by
  refine ⟨dp_mono s d x h.1, ?_⟩
  have q := h.2
  cases d with
  | list ds => obtain ⟨a, xs, e, hs, ha⟩ := q; exact ⟨a, xs, e, s.seq hs, dpAll_mono r _ _ ha⟩
  | tuple ds => obtain ⟨a, xs, e, hs, ha⟩ := q; exact ⟨a, xs, e, same_seqT s hs, dpAll_mono r _ _ ha⟩
  | _ => trivial
theorem RW.opd {σ : L2.St} {ρ : Env} {fps : Nat → List Addr} {R0 H0 R1 H1 : Hp} {w : W} {v : V} {fv : List Addr} (g0 : G K R0 H0 σ ρ fps) (p : PStep R0 H0 R1 H1) (r : RW K R1 H1 H0 σ ρ w v fv) (ok : okEl ρ w) : Opd K (share R1 H1 fv) H1 v (view ρ w) := by
  refine ⟨r.dp (g0.step p), ?_⟩
  cases e : view ρ w with
  | list ds => exact r.elems g0 p e ok
  | tuple ds =>
    obtain ⟨a, xs, h1, h2, h3⟩ := r.elemsT g0 p e
    exact ⟨a, xs, h1, h2, dpAll_mono (share_mono p.sub) _ _ h3⟩
  | _ => trivial
/-- a new list, a new tuple -/
theorem new_lst {R H R' H2 : Hp} {a : Addr} {xs : List V} {ds : List PyData} (p : PStep R H R' H2) (hp : H2 a = none) (hd : DpAll K R' xs ds) :
    PStep R H R' (upd H2 a (.lst xs)) ∧ RO K R' (upd H2 a (.lst xs)) H (.lst ds) (.ref a) [a] :=
  ⟨⟨p.h.trans (same_upd hp), p.r, p.fr, p.sub.trans (same_upd hp)⟩, ⟨a, xs, rfl, upd_same, hd, rfl⟩, by simp, fun b hb => by
    have e : b = a := by simpa using hb
    subst e
    exact ⟨p.h.free hp, p.sub.free hp⟩⟩
theorem new_tup {R H R' H2 : Hp} {a : Addr} {xs : List V} {ds : List PyData} (p : PStep R H R' H2) (hp : H2 a = none) (hd : DpAll K R' xs ds) :
    PStep R H (upd R' a (.tup xs)) (upd H2 a (.tup xs)) ∧ RO K (upd R' a (.tup xs)) (upd H2 a (.tup xs)) H (.sh (.tuple ds)) (.ref a) [] := by
  have hR : R' a = none := p.sub.free hp
  refine ⟨⟨p.h.trans (same_upd hp), p.r.trans (same_upd hR), fun b hb => ?_, fun b o e => ?_⟩, .sh (.tup (.inl (.inl upd_same)) (dpAll_mono (same_upd hR) _ _ hd))⟩
  · by_cases e : b = a
    · subst e; exact .inr (p.h.free hp)
    · rw [upd_ne e] at hb; exact p.fr b hb
  · by_cases q : b = a
    · subst q; rw [upd_same] at e ⊢; exact e
    · rw [upd_ne q] at e ⊢; exact p.sub b o e
theorem RO.rw {σ : L2.St} {ρ : Env} {R' H' H : Hp} {o : O} {v : V} {fv : List Addr} (h : RO K R' H' H o v fv) : RW K R' H' H σ ρ (.o o) v fv := h
theorem RO.older {R' H' H H0 : Hp} {o : O} {v : V} {fv : List Addr} (h : RO K R' H' H o v fv) (s : Same H0 H) : RO K R' H' H0 o v fv := ⟨h.1, h.2.1, fun a ha => ⟨s.free (h.2.2 a ha).1, (h.2.2 a ha).2⟩⟩
/-! ### contracts with an atom as the answer -/
theorem con2_at {r : R2} {f : PyData → PyData → PyData} {n : PyData → PyData → Prop}
    (hr : ∀ x y d d' H Q, Dp K H x d → Dp K H y d' → n d d' → Q (toV (f d d')) H → r x y H Q) (ha : ∀ d d', n d d' → isAt (f d d')) : Con2 K r (fun d e => .sh (f d e)) n :=
  fun x y d e R H Q s hx hy hn k => hr x y d e H Q hx.1 hy.1 hn (k _ R H [] (.refl s) (.sh (dp_at (ha _ _ hn))))
theorem con1_at {r : V → Hp → VK → Prop} {f : PyData → PyData} {n : PyData → Prop}
    (hr : ∀ x d H Q, Dp K H x d → n d → Q (toV (f d)) H → r x H Q) (ha : ∀ d, n d → isAt (f d)) : Con1 K r (fun d => .sh (f d)) n :=
  fun x d R H Q s hx hn k => hr x d H Q hx.1 hn (k _ R H [] (.refl s) (.sh (dp_at (ha _ hn))))
@[simp] def dI2 (f : Int → Int → PyData) : PyData → PyData → PyData
  | .int i, .int j => f i j
  | _, _ => .none
@[simp] def nI2 (p : Int → Int → Prop) : PyData → PyData → Prop
  | .int i, .int j => p i j
  | _, _ => False
theorem con_i2 {r : R2} {f : Int → Int → PyData} {p : Int → Int → Prop} (hf : ∀ i j, isAt (f i j))
    (hr : ∀ i j H Q, p i j → Q (toV (f i j)) H → r (.int i) (.int j) H Q) : Con2 K r (fun d e => .sh (dI2 f d e)) (nI2 p) := by
  refine con2_at (fun x y d d' H Q hx hy hn q => ?_) (fun d d' hn => ?_)
  · cases d with
    | int i =>
      cases d' with
      | int j => rw [dp_int hx, dp_int hy]; exact hr i j H Q hn q
      | _ => exact hn.elim
    | _ => exact hn.elim
  · cases d with
    | int i =>
      cases d' with
      | int j => exact hf i j
      | _ => exact hn.elim
    | _ => exact hn.elim
theorem con_rI {C : Int → Int → Prop} {g : Int → Int → Int} : Con2 K (rI C fun i j => .int (g i j)) (fun d e => .sh (dI2 (fun i j => .int (g i j)) d e)) (nI2 C) :=
  con_i2 (fun _ _ => trivial) fun i j H Q c q => ⟨i, j, rfl, rfl, c, q⟩
theorem con_rI0 {g : Int → Int → Int} : Con2 K (rI0 fun i j => .int (g i j)) (fun d e => .sh (dI2 (fun i j => .int (g i j)) d e)) (nI2 fun _ _ => True) :=
  con_i2 (fun _ _ => trivial) fun i j H Q c q => ⟨i, j, rfl, rfl, q⟩
/-! ### + -/
def rCatS (K : PySem.W.Frag) : R2 := fun x y H Q => ∃ l b xs zs, x = .ref l ∧ y = .ref b ∧ SqL K H l xs ∧ SqL K H b zs ∧ xs.length + zs.length ≤ sizeLine ∧ ∀ p, H p = none → Q (.ref p) (upd H p (.lst (xs ++ zs)))
def rAddStr : R2 := fun x y H Q => ∃ i j, x = .str i ∧ y = .str j ∧ i.length + j.length ≤ sizeLine ∧ Q (.str (i ++ j)) H
def rPlus (K : PySem.W.Frag) : R2 := fun x y H Q => rI0 (fun i j => .int (i + j)) x y H Q ∨ rAddStr x y H Q ∨ rCatS K x y H Q
@[simp] def dAdd : PyData → PyData → O
  | .int i, .int j => .sh (.int (i + j))
  | .str x, .str y => .sh (.str (x ++ y))
  | .list xs, .list ys => .lst (xs ++ ys)
  | _, _ => .sh .none
@[simp] def nAdd : PyData → PyData → Prop
  | .int _, .int _ => True
  | .str x, .str y => x.length + y.length ≤ sizeLine
  | .list xs, .list ys => xs.length + ys.length ≤ sizeLine
  | _, _ => False
theorem con_plus : Con2 K (rPlus K) dAdd nAdd := by
  intro x y d e R H Q s hx hy hn k
  cases d with
  | int i =>
    cases e with
    | int j => exact .inl ⟨i, j, dp_int hx.1, dp_int hy.1, k _ R H [] (.refl s) (.sh (.int _))⟩
    | _ => exact hn.elim
  | str i =>
    cases e with
    | str j => exact .inr (.inl ⟨i, j, dp_str hx.1, dp_str hy.1, hn, k _ R H [] (.refl s) (.sh (.str _))⟩)
    | _ => exact hn.elim
  | list ds =>
    cases e with
    | list es =>
      obtain ⟨l, xs, rfl, hl, hd⟩ := hx.2
      obtain ⟨b, ys, rfl, hb, he⟩ := hy.2
      refine .inr (.inr ⟨l, b, xs, ys, rfl, rfl, hl, hb, ?_, fun p hp => ?_⟩)
      · rw [dpAll_len hd, dpAll_len he]; exact hn
      · obtain ⟨p1, r1⟩ := new_lst (.refl s) hp (dpAll_app hd he)
        exact k _ _ _ _ p1 r1
    | _ => exact hn.elim
  | _ => exact hn.elim
end
section
variable {X : Cx}
theorem op_catS : OpR X (binaryOp .Add) (rCatS X.K) := by
  intro pins s σ H x y v u Q I rx ry h
  obtain ⟨l, b, xs, zs, rfl, rfl, hH, hB, hz, q⟩ := h
  cases rx
  cases ry
  obtain ⟨its, r, pl, z⟩ := I.list hH
  obtain ⟨its2, r2, pl2, z2⟩ := I.list hB
  obtain ⟨⟨cls, dd, data, sl⟩, n, ho, hc, hdn, hd⟩ := pl
  obtain ⟨⟨cls2, dd2, data2, sl2⟩, n2, ho2, hc2, hdn2, hd2⟩ := pl2
  simp only at hc hdn hd hc2 hdn2 hd2
  subst hc hdn hd hc2 hdn2 hd2
  have l1 := r.length
  have l2 := r2.length
  refine concat_meets ⟨_, ho, rfl⟩ ⟨_, ho2, rfl⟩ noFill_list_add seq_list_add PySem.F.slot_list_add PySem.F.entry_list_add (PySem.F.args_list_add_2 _ _) (PyProof.Rows.list_addW l b its.toArray its2.toArray n n2 none none sl sl2 (by simp; omega)) ⟨ho, ho2, ?_⟩
  have ea : its.toArray ++ its2.toArray = (its ++ its2).toArray := by simp
  rw [ea]
  exact ⟨.ref _, _, I.lnew (t' := s.toks) (r.append r2) (by rw [List.length_append]; omega), rfl, q _ I.fresh⟩
theorem op_plus : OpR X (binaryOp .Add) (rPlus X.K) := op_add.or (OpR.or op_add_str op_catS)
end
end TL
set_option linter.all false
set_option maxRecDepth 100000
set_option maxHeartbeats 1000000
set_option autoImplicit false
namespace TL
open PySem PySem.Spec PyProof.Rows L2
/-! ## pure lifts -/
section
variable {X : Cx} {va vb vc : Env → W} {na nb nc : Env → Prop}
@[simp ↓] abbrev pv1 (f : PyData → O) (va : Env → W) : Env → W := fun ρ => .o (f (view ρ (va ρ)))
@[simp ↓] abbrev pn1 (n : PyData → Prop) (va : Env → W) (na : Env → Prop) : Env → Prop := fun ρ => na ρ ∧ okEl ρ (va ρ) ∧ n (view ρ (va ρ))
@[simp ↓] abbrev pv2 (f : PyData → PyData → O) (va vb : Env → W) : Env → W := fun ρ => .o (f (view ρ (va ρ)) (view ρ (vb ρ)))
@[simp ↓] abbrev pn2 (n : PyData → PyData → Prop) (va vb : Env → W) (na nb : Env → Prop) : Env → Prop := fun ρ => na ρ ∧ nb ρ ∧ okEl ρ (va ρ) ∧ okEl ρ (vb ρ) ∧ n (view ρ (va ρ)) (view ρ (vb ρ))
/-- a reading of one operand -/
theorem one_t {r : V → Hp → VK → Prop} {f : PyData → O} {n : PyData → Prop} (C : Con1 X.K r f n) (σ : L2.St) (H : Hp) (Q : VK) (h : PVt X.K (pv1 f va) (pn1 n va na) σ H Q) : PVt X.K va na σ H fun x H1 => r x H1 Q := by
  obtain ⟨R, ρ, fps, g, ⟨h1, h2, h3⟩, k⟩ := h
  refine ⟨R, ρ, fps, g, h1, fun x R1 H1 fx p r => ?_⟩
  have ps := share_step p r
  refine C x _ (share R1 H1 fx) H1 Q ps.sub (r.opd g p h2) h3 fun v R' H' fv p' ro => ?_
  exact k v R' H' fv (ps.trans p') (ro.older p.h).rw
theorem two_t {r : R2} {f : PyData → PyData → O} {n : PyData → PyData → Prop} (C : Con2 X.K r f n) (σ : L2.St) (H : Hp) (Q : VK) (h : PVt X.K (pv2 f va vb) (pn2 n va vb na nb) σ H Q) : tOp r (PVt X.K va na) (PVt X.K vb nb) σ H Q := by
  obtain ⟨R, ρ, fps, g, ⟨h1, h2, h3, h4, h5⟩, k⟩ := h
  refine two ⟨R, ρ, fps, g, h1, h2, fun x y R2 H2 fx fy p g2 rx ry dj => ?_⟩
  have p1 := share_step p rx
  have ry' : RW X.K (share R2 H2 fx) H2 H σ ρ (vb ρ) y fy := ry.moved (share_mono p.sub) fun a ha => by
    rw [share_out (fun hx => dj a hx ha)]; exact ry.off a ha
  have p2 := share_step p1 ry'
  have ox := (rx.opd g p h3).mono (share_mono p1.sub (fv := fy)) (Same.refl _)
  have oy := ry'.opd g p1 h4
  refine C x y _ _ _ H2 Q p2.sub ox oy h5 fun v R' H' fv p' ro => ?_
  exact k v R' H' fv (p2.trans p') (ro.older p.h).rw
theorem pv_bin {e : Expr} {r : R2} {f : PyData → PyData → O} {n : PyData → PyData → Prop} (h : PE X e (tOp r (PVt X.K va na) (PVt X.K vb nb))) (C : Con2 X.K r f n) : PV X e (pv2 f va vb) (pn2 n va vb na nb) :=
  pe_mono h (two_t C)
theorem pv_un {e : Expr} {r : V → Hp → VK → Prop} {f : PyData → O} {n : PyData → Prop} (h : PE X e (tUn r (PVt X.K va na))) (C : Con1 X.K r f n) : PV X e (pv1 f va) (pn1 n va na) :=
  pe_mono h (one_t C)
/-! ### argument lists -/
def RWs (K : PySem.W.Frag) (R' H' H : Hp) (σ : L2.St) (ρ : Env) : List W → List V → List Addr → Prop
  | [], vs, fv => vs = [] ∧ fv = []
  | w :: ws, vs, fv => ∃ v r f1 f2, vs = v :: r ∧ RW K R' H' H σ ρ w v f1 ∧ RWs K R' H' H σ ρ ws r f2 ∧ fv = f1 ++ f2 ∧ ∀ a ∈ f1, a ∉ f2
def PAt (K : PySem.W.Frag) (vl : Env → List W) (nd : Env → Prop) : TA := fun σ H Q => ∃ R ρ fps, G K R H σ ρ fps ∧ nd ρ ∧ ∀ vs R' H' fv, PStep R H R' H' → RWs K R' H' H σ ρ (vl ρ) vs fv → Q vs H'
abbrev PVs (X : Cx) (es : List Expr) (vl : Env → List W) (nd : Env → Prop) : Prop := PA X es (PAt X.K vl nd)
section
variable {K : PySem.W.Frag} {σ : L2.St} {ρ : Env} {fps : Nat → List Addr} {R1 H1 H0 R0 : Hp}
theorem RWs.older {H00 : Hp} (s : Same H00 H0) : ∀ {ws : List W} {vs : List V} {fv : List Addr}, RWs K R1 H1 H0 σ ρ ws vs fv → RWs K R1 H1 H00 σ ρ ws vs fv
  | [], _, _, h => h
  | w :: ws, _, _, h => by
    obtain ⟨v, r, f1, f2, e, h1, h2, e2, d⟩ := h
    exact ⟨v, r, f1, f2, e, h1.older s, RWs.older s h2, e2, d⟩
theorem RWs.fresh : ∀ {ws : List W} {vs : List V} {fv : List Addr}, RWs K R1 H1 H0 σ ρ ws vs fv → ∀ a ∈ fv, H0 a = none
  | [], _, _, h, a, ha => by rw [h.2] at ha; cases ha
  | w :: ws, _, _, h, a, ha => by
    obtain ⟨v, r, f1, f2, e, h1, h2, rfl, d⟩ := h
    rcases List.mem_append.mp ha with ha | ha
    · exact h1.fresh a ha
    · exact RWs.fresh h2 a ha
theorem RWs.off : ∀ {ws : List W} {vs : List V} {fv : List Addr}, RWs K R1 H1 H0 σ ρ ws vs fv → ∀ a ∈ fv, R1 a = none
  | [], _, _, h, a, ha => by rw [h.2] at ha; cases ha
  | w :: ws, _, _, h, a, ha => by
    obtain ⟨v, r, f1, f2, e, h1, h2, rfl, d⟩ := h
    rcases List.mem_append.mp ha with ha | ha
    · exact h1.off a ha
    · exact RWs.off h2 a ha
theorem RWs.moved {R2 : Hp} (m : Same R1 R2) : ∀ {ws : List W} {vs : List V} {fv : List Addr}, RWs K R1 H1 H0 σ ρ ws vs fv → (∀ a ∈ fv, R2 a = none) → RWs K R2 H1 H0 σ ρ ws vs fv
  | [], _, _, h, n => h
  | w :: ws, _, _, h, n => by
    obtain ⟨v, r, f1, f2, e, h1, h2, rfl, d⟩ := h
    exact ⟨v, r, f1, f2, e, h1.moved m fun a ha => n a (List.mem_append_left _ ha), RWs.moved m h2 fun a ha => n a (List.mem_append_right _ ha), rfl, d⟩
/-- all are made operands -/
theorem RWs.opds (g0 : G K R0 H0 σ ρ fps) : ∀ {ws : List W} {vs : List V} {fv : List Addr} {R1 : Hp}, PStep R0 H0 R1 H1 → RWs K R1 H1 H0 σ ρ ws vs fv → (∀ w ∈ ws, okEl ρ w) →
    ∃ R2, PStep R0 H0 R2 H1 ∧ Same R1 R2 ∧ Opds K R2 H1 vs (ws.map (view ρ))
  | [], _, _, R1, p, h, _ => by rw [h.1]; exact ⟨R1, p, Same.refl _, .nil⟩
  | w :: ws, _, _, R1, p, h, ok => by
    obtain ⟨v, r, f1, f2, rfl, h1, h2, rfl, d⟩ := h
    have p1 := share_step p h1
    have o1 := h1.opd g0 p (ok w List.mem_cons_self)
    have h2' := h2.moved (share_mono p.sub (fv := f1)) fun a ha => by
      rw [share_out (fun hx => d a hx ha)]; exact h2.off a ha
    obtain ⟨R2, p2, s2, o2⟩ := RWs.opds g0 p1 h2' fun w' hw => ok w' (List.mem_cons_of_mem _ hw)
    exact ⟨R2, p2, (share_mono p.sub).trans s2, .cons (o1.mono s2 (Same.refl _)) o2⟩
/-- may each be shared -/
@[simp] def canShs (ρ : Env) (ws : List W) : Prop := ∀ w ∈ ws, canSh ρ w
theorem canSh_ok {w : W} (h : canSh ρ w) : okEl ρ w := by
  cases w with
  | o x => trivial
  | al i =>
    obtain ⟨d, e⟩ := h
    show (match ρ[i]? with | some (some (.nest _)) => False | _ => True)
    rw [e]; trivial
theorem RWs.shared (g0 : G K R0 H0 σ ρ fps) : ∀ {ws : List W} {vs : List V} {fv : List Addr} {R1 : Hp}, PStep R0 H0 R1 H1 → RWs K R1 H1 H0 σ ρ ws vs fv → canShs ρ ws →
    ∃ R2, PStep R0 H0 R2 H1 ∧ Same R1 R2 ∧ DpAll K R2 vs (ws.map (view ρ))
  | [], _, _, R1, p, h, _ => by rw [h.1]; exact ⟨R1, p, Same.refl _, .nil⟩
  | w :: ws, _, _, R1, p, h, ok => by
    obtain ⟨v, r, f1, f2, rfl, h1, h2, rfl, d⟩ := h
    obtain ⟨p1, o1⟩ := h1.freeze (g0.step p) p (ok w List.mem_cons_self)
    have h2' := h2.moved (share_mono p.sub (fv := f1)) fun a ha => by
      rw [share_out (fun hx => d a hx ha)]; exact h2.off a ha
    obtain ⟨R2, p2, s2, o2⟩ := RWs.shared g0 p1 h2' fun w' hw => ok w' (List.mem_cons_of_mem _ hw)
    exact ⟨R2, p2, (share_mono p.sub).trans s2, .cons (dp_mono s2 _ _ o1) o2⟩
end
theorem pvs_nil : PVs X [] (fun _ => []) (fun _ => True) := pa_mono pa_nil fun σ H Q ⟨R, ρ, fps, g, _, k⟩ => k [] R H [] (.refl g.sub) ⟨rfl, rfl⟩
theorem pvs_cons {e : Expr} {es : List Expr} {vl : Env → List W} {nl : Env → Prop} (ha : PV X e va na) (hr : PVs X es vl nl) (hs : starEach (e :: es) X.env = (false, eval e X.env) :: starEach es X.env := by rfl) :
    PVs X (e :: es) (fun ρ => va ρ :: vl ρ) (fun ρ => na ρ ∧ nl ρ) := by
  refine pa_mono (pa_cons ha hr hs) fun σ H Q ⟨R, ρ, fps, g, ⟨h1, h2⟩, k⟩ => ?_
  refine ⟨R, ρ, fps, g, h1, fun x R1 H1 fx p1 r1 => ⟨R1, ρ, fps, g.step p1, h2, fun vs R2 H2 fv p2 r2 => ?_⟩⟩
  exact k _ R2 H2 _ (p1.trans p2) ⟨x, vs, fx, fv, rfl, r1.keep p2, r2.older p1.h, rfl, fun a h1 h2 => r1.on a h1 (r2.fresh a h2)⟩
@[simp ↓] abbrev pvC (f : List PyData → O) (vl : Env → List W) : Env → W := fun ρ => .o (f ((vl ρ).map (view ρ)))
@[simp ↓] abbrev pnC (n : List PyData → Prop) (vl : Env → List W) (nl : Env → Prop) : Env → Prop := fun ρ => nl ρ ∧ (∀ w ∈ vl ρ, okEl ρ w) ∧ n ((vl ρ).map (view ρ))
theorem argsC {vl : Env → List W} {nl : Env → Prop} {r : List V → Hp → VK → Prop} {f : List PyData → O} {n : List PyData → Prop} (C : ConC X.K r f n) (σ : L2.St) (H : Hp) (Q : VK) (h : PVt X.K (pvC f vl) (pnC n vl nl) σ H Q) :
    tCB r (PAt X.K vl nl) σ H Q := by
  obtain ⟨R, ρ, fps, g, ⟨h1, h2, h3⟩, k⟩ := h
  refine ⟨R, ρ, fps, g, h1, fun vs R1 H1 fv p r => ?_⟩
  obtain ⟨R2, p2, _, o⟩ := r.opds g p h2
  refine C vs _ R2 H1 Q p2.sub o h3 fun v R' H' fv p' ro => ?_
  exact k v R' H' fv (p2.trans p') (ro.older p.h).rw
/-- f(e, ..), f a built-in function; T(e, ..), T a built-in class -/
theorem pv_callB {id : String} {x : Str} {r : List V → Hp → VK → Prop} {f : List PyData → O} {n : List PyData → Prop} {e : Expr} {es : List Expr} {vl : Env → List W} {nl : Env → Prop} {p pos : Pos} (hc : CallR X (.builtin id) r) (C : ConC X.K r f n) (hm : X.mg x = none) (ha : PVs X (e :: es) vl nl)
    (hg : Gl X x := by rfl) (hv : bootBuiltins x = some (.builtin id) := by decide +kernel) (hn : x ≠ "__name__" := by decide) (hdb : (x == ("__debug__" : Str)) = false := by decide)
    (he : starEach (e :: es) X.env = (false, eval e X.env) :: starEach es X.env := by rfl) (hpl : (backTo pos (starEach es X.env)).any (·.1) = false := by rfl) : PV X (.Call (.Name x p) (e :: es) [] pos) (pvC f vl) (pnC n vl nl) :=
  pe_mono (pe_callB hc hg hm hv ha hn hdb he hpl) (argsC C)
theorem pv_callT {T : String} {x : Str} {r : List V → Hp → VK → Prop} {f : List PyData → O} {n : List PyData → Prop} {e : Expr} {es : List Expr} {vl : Env → List W} {nl : Env → Prop} {p pos : Pos} (hc : CallR X (.type T) r) (C : ConC X.K r f n) (hm : X.mg x = none) (ha : PVs X (e :: es) vl nl)
    (hg : Gl X x := by rfl) (hv : bootBuiltins x = some (.type T) := by decide +kernel) (hn : x ≠ "__name__" := by decide) (hdb : (x == ("__debug__" : Str)) = false := by decide)
    (he : starEach (e :: es) X.env = (false, eval e X.env) :: starEach es X.env := by rfl) (hpl : (backTo pos (starEach es X.env)).any (·.1) = false := by rfl) : PV X (.Call (.Name x p) (e :: es) [] pos) (pvC f vl) (pnC n vl nl) :=
  pe_mono (pe_callTy hc hg hm hv ha hn hdb he hpl) (argsC C)
/-- displays -/
theorem pv_lst {es : List Expr} {vl : Env → List W} {nl : Env → Prop} {pos : Pos} (ha : PVs X es vl nl) : PV X (.List es pos) (fun ρ => .o (.lst ((vl ρ).map (view ρ)))) (fun ρ => nl ρ ∧ canShs ρ (vl ρ) ∧ (vl ρ).length ≤ sizeLine) := by
  refine pe_mono (pe_lst ha) fun σ H Q ⟨R, ρ, fps, g, ⟨h1, h2, h3⟩, k⟩ => ⟨R, ρ, fps, g, h1, fun vs R1 H1 fv p r => ?_⟩
  obtain ⟨R2, p2, _, o⟩ := r.shared g p h2
  refine ⟨by rw [dpAll_len o, List.length_map]; exact h3, fun a ha => ?_⟩
  obtain ⟨p3, ro⟩ := new_lst p2 ha o
  exact k _ _ _ _ p3 ro.rw
theorem pv_tup {es : List Expr} {vl : Env → List W} {nl : Env → Prop} {x1 pos} (ha : PVs X es vl nl) : PV X (.Tuple es x1 pos) (fun ρ => .o (.sh (.tuple ((vl ρ).map (view ρ))))) (fun ρ => nl ρ ∧ canShs ρ (vl ρ) ∧ (vl ρ).length ≤ sizeLine) := by
  refine pe_mono (pe_tup ha) fun σ H Q ⟨R, ρ, fps, g, ⟨h1, h2, h3⟩, k⟩ => ⟨R, ρ, fps, g, h1, fun vs R1 H1 fv p r => ?_⟩
  obtain ⟨R2, p2, _, o⟩ := r.shared g p h2
  refine ⟨by rw [dpAll_len o, List.length_map]; exact h3, fun a ha => ?_⟩
  obtain ⟨p3, ro⟩ := new_tup p2 ha o
  exact k _ _ _ _ p3 ro.rw
/-! ### tests -/
@[simp] def asB : PyData → Bool
  | .bool b => b
  | _ => false
@[simp] def isB : PyData → Prop
  | .bool _ => True
  | _ => False
def PTt (K : PySem.W.Frag) (b : Env → Bool) (nd : Env → Prop) : TT := fun σ H Q => ∃ R ρ fps, G K R H σ ρ fps ∧ nd ρ ∧ ∀ R' H', PStep R H R' H' → Q (b ρ) H'
abbrev PVT (X : Cx) (e : Expr) (b : Env → Bool) (nd : Env → Prop) : Prop := PT X e (PTt X.K b nd)
theorem view_bl {K : PySem.W.Frag} {H : Hp} {x : V} {d : PyData} (h : Dp K H x d) (hb : isB d) : x = .bl (asB d) := by
  cases d with
  | bool b => exact dp_bl h
  | _ => exact hb.elim
theorem pvt_val {e : Expr} (h : PV X e va na) (he : ∀ whole, isTrue e X.env whole = (do let v ← whole; standAt e.pos; holding [v] (truthy v)) := by intro _; rfl) : PVT X e (fun ρ => asB (view ρ (va ρ))) (fun ρ => na ρ ∧ isB (view ρ (va ρ))) := by
  refine pt_mono (pt_val h he) fun σ H Q ⟨R, ρ, fps, g, ⟨h1, h2⟩, k⟩ => ⟨R, ρ, fps, g, h1, fun v R1 H1 fv p r => ?_⟩
  exact ⟨_, view_bl (r.dp (g.step p)) h2, k R1 H1 p⟩
theorem pvt_cmp {op : CmpOp} {r : R2} {f : PyData → PyData → O} {n : PyData → PyData → Prop} {a b : Expr} {pos : Pos} (ho : OpR X (compareOp op) r) (C : Con2 X.K r f n) (ha : PV X a va na) (hb : PV X b vb nb) (hm : behindInMarks op b = false) :
    PVT X (.Compare a [op] [b] pos) (fun ρ => asB (f (view ρ (va ρ)) (view ρ (vb ρ))).fg) (fun ρ => pn2 n va vb na nb ρ ∧ isB (f (view ρ (va ρ)) (view ρ (vb ρ))).fg) := by
  refine pt_mono (pt_cmpR ho ha hb hm) fun σ H Q ⟨R, ρ, fps, g, ⟨h1, h2⟩, k⟩ => ?_
  show tOp r (PVt X.K va na) (PVt X.K vb nb) σ H (fun x H' => ∃ k, x = .bl k ∧ Q k H')
  refine two_t C σ H _ ⟨R, ρ, fps, g, h1, fun v R1 H1 fv p r => ?_⟩
  exact ⟨_, view_bl (r.dp (g.step p)) h2, k R1 H1 p⟩
theorem pv_cmp {op : CmpOp} {r : R2} {f : PyData → PyData → O} {n : PyData → PyData → Prop} {a b : Expr} {pos : Pos} (ho : OpR X (compareOp op) r) (C : Con2 X.K r f n) (ha : PV X a va na) (hb : PV X b vb nb) (hm : behindInMarks op b = false) :
    PV X (.Compare a [op] [b] pos) (pv2 f va vb) (pn2 n va vb na nb) := pv_bin (pe_cmpR ho ha hb hm) C
variable {ba bb : Env → Bool}
theorem pvt_not {a : Expr} {pos : Pos} (ha : PVT X a ba na) : PVT X (.UnaryOp .Not a pos) (fun ρ => !ba ρ) na :=
  pt_mono (pt_not ha) fun σ H Q ⟨R, ρ, fps, g, h1, k⟩ => ⟨R, ρ, fps, g, h1, fun R1 H1 p => k R1 H1 p⟩
def PWt (X : Cx) (e : Expr) (b : Env → Bool) (nd : Env → Prop) : Prop := PW X e (PTt X.K b nd)
theorem pw_mono {X : Cx} {e : Expr} {t t' : TT} (h : PW X e t) (m : ∀ σ H Q, t' σ H Q → t σ H Q) : PW X e t' := ⟨fun w pins s σ H Q I q => h.run w pins s σ H Q I (m σ H Q q)⟩
theorem pvw_and1 {a : Expr} {pos : Pos} (ha : PVT X a ba na) : PWt X (.BoolOp .And [a] pos) ba na := pw_and1 ha
theorem pvw_or1 {a : Expr} {pos : Pos} (ha : PVT X a ba na) : PWt X (.BoolOp .Or [a] pos) ba na := pw_or1 ha
theorem pvw_and {a b : Expr} {rest : List Expr} {pos : Pos} (ha : PVT X a ba na) (hb : PWt X (.BoolOp .And (b :: rest) pos) bb nb) : PWt X (.BoolOp .And (a :: b :: rest) pos) (fun ρ => ba ρ && bb ρ) (fun ρ => na ρ ∧ (ba ρ = true → nb ρ)) := by
  refine pw_mono (pw_and ha hb) fun σ H Q ⟨R, ρ, fps, g, ⟨h1, h2⟩, k⟩ => ⟨R, ρ, fps, g, h1, fun R1 H1 p => ?_⟩
  cases e : ba ρ with
  | true => exact iteT ⟨R1, ρ, fps, g.step p, h2 e, fun R2 H2 p2 => by have q : Q (ba ρ && bb ρ) H2 := k R2 H2 (p.trans p2); rw [e, Bool.true_and] at q; exact q⟩
  | false => exact iteF (by have q : Q (ba ρ && bb ρ) H1 := k R1 H1 p; rw [e, Bool.false_and] at q; exact q)
theorem pvw_or {a b : Expr} {rest : List Expr} {pos : Pos} (ha : PVT X a ba na) (hb : PWt X (.BoolOp .Or (b :: rest) pos) bb nb) : PWt X (.BoolOp .Or (a :: b :: rest) pos) (fun ρ => ba ρ || bb ρ) (fun ρ => na ρ ∧ (ba ρ = false → nb ρ)) := by
  refine pw_mono (pw_or ha hb) fun σ H Q ⟨R, ρ, fps, g, ⟨h1, h2⟩, k⟩ => ⟨R, ρ, fps, g, h1, fun R1 H1 p => ?_⟩
  cases e : ba ρ with
  | true => exact iteT (by have q : Q (ba ρ || bb ρ) H1 := k R1 H1 p; rw [e, Bool.true_or] at q; exact q)
  | false => exact iteF ⟨R1, ρ, fps, g.step p, h2 e, fun R2 H2 p2 => by have q : Q (ba ρ || bb ρ) H2 := k R2 H2 (p.trans p2); rw [e, Bool.false_or] at q; exact q⟩
theorem pvt_w {e : Expr} (h : PWt X e ba na) : PVT X e ba na := PW.pt h
/-! boolean values -/
theorem pv_one {op} {a : Expr} {pos : Pos} (ha : PV X a va na) : PV X (.BoolOp op [a] pos) va na := pe_one ha
theorem pv_and {a b : Expr} {rest : List Expr} {pos : Pos} (ha : PV X a va na) (hb : PV X (.BoolOp .And (b :: rest) pos) vb nb) :
    PV X (.BoolOp .And (a :: b :: rest) pos) (fun ρ => .o (.sh (.bool (asB (view ρ (va ρ)) && asB (view ρ (vb ρ)))))) (fun ρ => na ρ ∧ isB (view ρ (va ρ)) ∧ (asB (view ρ (va ρ)) = true → nb ρ ∧ isB (view ρ (vb ρ)))) := by
  refine pe_mono (pe_and ha hb) fun σ H Q ⟨R, ρ, fps, g, ⟨h1, h2, h3⟩, k⟩ => ⟨R, ρ, fps, g, h1, fun v R1 H1 fv p r => ?_⟩
  refine ⟨_, view_bl (r.dp (g.step p)) h2, ?_⟩
  cases e : asB (view ρ (va ρ)) with
  | true =>
    refine iteT ⟨R1, ρ, fps, g.step p, (h3 e).1, fun v2 R2 H2 fv2 p2 r2 => ?_⟩
    have q := k (.bl (asB (view ρ (vb ρ)))) R2 H2 [] (p.trans p2) (.sh (by rw [e, Bool.true_and]; exact .bl _))
    rw [view_bl (r2.dp ((g.step p).step p2)) (h3 e).2]
    exact q
  | false => exact iteF (k (.bl false) R1 H1 [] p (.sh (by rw [e, Bool.false_and]; exact .bl _)))
theorem pv_or {a b : Expr} {rest : List Expr} {pos : Pos} (ha : PV X a va na) (hb : PV X (.BoolOp .Or (b :: rest) pos) vb nb) :
    PV X (.BoolOp .Or (a :: b :: rest) pos) (fun ρ => .o (.sh (.bool (asB (view ρ (va ρ)) || asB (view ρ (vb ρ)))))) (fun ρ => na ρ ∧ isB (view ρ (va ρ)) ∧ (asB (view ρ (va ρ)) = false → nb ρ ∧ isB (view ρ (vb ρ)))) := by
  refine pe_mono (pe_or ha hb) fun σ H Q ⟨R, ρ, fps, g, ⟨h1, h2, h3⟩, k⟩ => ⟨R, ρ, fps, g, h1, fun v R1 H1 fv p r => ?_⟩
  refine ⟨_, view_bl (r.dp (g.step p)) h2, ?_⟩
  cases e : asB (view ρ (va ρ)) with
  | true => exact iteT (k (.bl true) R1 H1 [] p (.sh (by rw [e, Bool.true_or]; exact .bl _)))
  | false =>
    refine iteF ⟨R1, ρ, fps, g.step p, (h3 e).1, fun v2 R2 H2 fv2 p2 r2 => ?_⟩
    have q := k (.bl (asB (view ρ (vb ρ)))) R2 H2 [] (p.trans p2) (.sh (by rw [e, Bool.false_or]; exact .bl _))
    rw [view_bl (r2.dp ((g.step p).step p2)) (h3 e).2]
    exact q
theorem pv_not {a : Expr} {pos : Pos} (ha : PV X a va na) : PV X (.UnaryOp .Not a pos) (fun ρ => .o (.sh (.bool (!asB (view ρ (va ρ)))))) (fun ρ => na ρ ∧ isB (view ρ (va ρ))) := by
  refine pe_mono (pe_not ha) fun σ H Q ⟨R, ρ, fps, g, ⟨h1, h2⟩, k⟩ => ⟨R, ρ, fps, g, h1, fun v R1 H1 fv p r => ?_⟩
  exact ⟨_, view_bl (r.dp (g.step p)) h2, k _ R1 H1 [] p (.sh (.bl _))⟩
/-- a if t else b -/
theorem pv_if {c a b : Expr} {pos : Pos} {bc : Env → Bool} (hc : PVT X c bc nc) (ha : PV X a va na) (hb : PV X b vb nb) :
    PV X (.IfExp c a b pos) (fun ρ => if bc ρ = true then va ρ else vb ρ) (fun ρ => nc ρ ∧ (bc ρ = true → na ρ) ∧ (bc ρ = false → nb ρ)) := by
  refine pe_mono (pe_ifExp hc ha hb) fun σ H Q ⟨R, ρ, fps, g, ⟨h1, h2, h3⟩, k⟩ => ⟨R, ρ, fps, g, h1, fun R1 H1 p => ?_⟩
  cases e : bc ρ with
  | true => exact iteT ⟨R1, ρ, fps, g.step p, h2 e, fun v R2 H2 fv p2 r => k v R2 H2 fv (p.trans p2) (by show RW X.K R2 H2 H σ ρ (if bc ρ = true then va ρ else vb ρ) v fv; rw [if_pos e]; exact r.older p.h)⟩
  | false => exact iteF ⟨R1, ρ, fps, g.step p, h3 e, fun v R2 H2 fv p2 r => k v R2 H2 fv (p.trans p2) (by show RW X.K R2 H2 H σ ρ (if bc ρ = true then va ρ else vb ρ) v fv; rw [if_neg (by rw [e]; exact Bool.false_ne_true)]; exact r.older p.h)⟩
end
end TL
set_option linter.all false
set_option maxRecDepth 100000
set_option maxHeartbeats 1000000
set_option autoImplicit false
namespace TL
open PySem PySem.Spec PyProof.Rows L2
/-! ## defs that are entered where nothing is being shown (no guards) -/
structure FnG (P : Program) (w : World) (K : PySem.W.Frag) (mg : Str → Option Value) (base : Heap) (cx : CXT) (k : Nat) (f : Addr) (fd : FuncData)
    (ps : List Str) (sp : Sp) : Prop where
  arity : ∀ vs H Q E, sp vs H Q E → vs.length = ps.length
  go : ∀ (A : Around) (out : List PySem.Env) (s : Shared) (H : Hp) (args : Args) (us : List Value) (vs : List V) (Q : VK) (E : XK), A.guards = some [] → Room k A →
    Env0 P w K mg base A out s H → BindsTo s fd args (ps.zip us) → Vals vs us → sp vs H Q E → codeAny (model P w) A (.call (.ref f) args) (CR cx out P w H s Q E) s
section
variable {P : Program} {w : World} {K : PySem.W.Frag} {mg : Str → Option Value} {base : Heap} {cx : CXT} {k : Nat} {f : Addr} {fd : FuncData} {ps : List Str} {sp : Sp}
theorem FnG.up {j : Nat} (F : FnG P w K mg base cx j f fd ps sp) (h : j ≤ k) : FnG P w K mg base cx k f fd ps sp :=
  ⟨F.arity, fun A out s H args us vs Q E g r => F.go A out s H args us vs Q E g (r.mono h)⟩
end
/-- from the body's reading -/
theorem fnG_of {cx : CXT} {P : Program} {w : World} {K : PySem.W.Frag} {mg : Str → Option Value} {base : Heap} {k : Nat} {f : Addr} {x qual : Str} {st : Stmt} {fd : FuncData} {N ps : List Str} {sp : Sp}
    (F : L2.Fun K x qual st f fd) (S : FnScope N ps (defScope st)) (arity : ∀ vs H Q E, sp vs H Q E → vs.length = ps.length)
    (body : ∀ (cdv : Value) (A : Around) (out : List PySem.Env) (s : Shared) (H : Hp) (vs : List V) (Q : VK) (E : XK), (A.deeper (envOfC qual (defScope st) s.heap.objs.size f cdv)).guards = some [] →
      Room k (A.deeper (envOfC qual (defScope st) s.heap.objs.size f cdv)) → sp vs H Q E →
      ∃ t, PSs (cxOf cx P w K mg base N qual (defScope st) f cdv A out s H E) (defBody st) t ∧ t { nx := fun _ H' => Q .non H', rt := Q } (start N vs) H) :
    FnG P w K mg base cx (k + 1) f fd ps sp := by
  obtain ⟨oc, od, kV, doc, pm, an, cdv, ct, osl, rfl, lk, hcd⟩ := F.ex
  refine ⟨arity, fun A out s H args us vs Q E hgu hr e0 hb rv hsp => ?_⟩
  have keepB : ∀ b o, base.get? b = some o → s.heap.get? b = some o := fun b o e => (e0.bs b o e).1
  have inK : K.In s.heap := e0.mod.kin.keeps keepB
  have noL : s.heap.NoLimit := e0.mod.nolimit.keeps keepB
  have nlen := arity _ _ _ _ hsp
  refine codeAny_call_function hr.depth (inK _ _ lk) rfl S.co S.gen rfl (PySem.W.codeRec_of inK hcd) (hb _ _ _ _ ?_)
  refine wpAny_newFunctionEnv_cells S.kind (fun y hy => ?_) fun env he s1 fr => ?_
  · obtain ⟨n, v⟩ := y
    rcases S.par n (List.of_mem_zip hy).1 with q | q
    · exact .inl q
    · exact .inr ⟨q, PySem.W.cellsFrom_some _ _ _ (.inl q)⟩
  · subst he
    refine ⟨noL.keeps fr.toInCall.keep, codeAny_func ?_⟩
    obtain ⟨t, ht, hq⟩ := body cdv A out s H vs Q E hgu (hr.deeper _) hsp
    refine wpAny_mono (ht.run [] s1 (start N vs) H _ (inv_start S hr.hd e0 nlen rv fr) hq) (fun fl s' hs => ?_) fun _ _ hs => hs
    cases fl with
    | ret u =>
      obtain ⟨v, σ', H', J, rv', q⟩ := hs
      exact ⟨v, H', J.os, J.bare, J.base, J.hok, rv', q⟩
    | next =>
      obtain ⟨σ', H', J, q⟩ := hs
      exact ⟨V.non, H', J.os, J.bare, J.base, J.hok, rfl, q⟩
    | brk => obtain ⟨_, _, _, q⟩ := hs; exact q.elim
    | cont => obtain ⟨_, _, _, q⟩ := hs; exact q.elim
section
variable {X : Cx} {cx : CXT} {k : Nat} {f : Addr} {fd : FuncData} {ps : List Str} {sp : Sp} {E : XK} {x : Str} {p pos : Pos} {e : Expr} {es : List Expr} {t tk : TA}
/-- the callee's end, seen from the caller -/
theorem back_to {pins : List (Addr × Obj)} {σ : L2.St} {H : Hp} {s : Shared} {Q : VK} (I : Inv X pins σ H s) (hx : Passes cx X E) {A' : Around} {args : Args}
    (h : codeAny (model X.prog X.w) A' (.call (.ref f) args) (CR cx X.stack X.prog X.w H s Q E) s) :
    codeAny (model X.prog X.w) A' (.call (.ref f) args) (fun r s' => match r with | .ok (.ret u) => EP X pins σ Q u s' | .ok _ => False | .error z => X.xe z s') s := by
  refine codeAny_mono h fun r s' hq => ?_
  cases r with
  | error z => exact hx pins σ H s z s' I hq
  | ok fl =>
    cases fl with
    | ret u => exact I.after hq
    | next => exact hq.elim
    | brk => exact hq.elim
    | cont => exact hq.elim
theorem go_fn {pins : List (Addr × Obj)} {σ : L2.St} {H : Hp} {s : Shared} {Q : VK} {us : List Value} {vs : List V} (F : FnG X.prog X.w X.K X.mg X.base cx k f fd ps sp) (hgu : X.A.guards = some []) (hr : Room k X.A)
    (hb : Binds X.K fd ps []) (hx : Passes cx X E) (I : Inv X pins σ H s) (r : Vals vs us) (h : sp vs H Q E) : wpAny (model X.prog X.w) X.A (PySem.call (.ref f) us) (EP X pins σ Q) X.xe s := by
  have hl : us.length = ps.length := by rw [← r.length]; exact F.arity _ _ _ _ h
  have bt := hb s us I.kIn (by rw [List.append_nil]; exact hl)
  rw [List.append_nil] at bt
  refine wpAny_call (codeAny_mono (back_to I hx (F.go X.A X.stack s H ⟨us, []⟩ us vs Q E hgu hr I.env0 bt r h)) fun r s' hq => ?_)
  cases r with
  | error z => exact hq
  | ok fl => cases fl <;> exact hq
/-- f(e, ..) -/
theorem pe_callG (F : FnG X.prog X.w X.K X.mg X.base cx k f fd ps sp) (hgu : X.A.guards = some []) (hr : Room k X.A) (hm : X.mg x = some (.ref f)) (hk : PySem.W.keepIn X.K (.ref f) = true) (hb : Binds X.K fd ps []) (hx : Passes cx X E)
    (ha : PA X (e :: es) t) (hg : Gl X x := by rfl) (hd : (x == ("__debug__" : Str)) = false := by decide) (he : starEach (e :: es) X.env = (false, eval e X.env) :: starEach es X.env := by rfl)
    (hpl : (backTo pos (starEach es X.env)).any (·.1) = false := by rfl) : PE X (.Call (.Name x p) (e :: es) [] pos) (fun σ H Q => t σ H fun vs H1 => sp vs H1 Q E) := by
  refine ⟨fun pins s σ H Q I h => wpAny_Call_Name_kw (ld_glob I hg hm ?_ hd)⟩
  refine PySem.W.callWith_K (h₀ := X.base) I.ok.mod.kin hk (thn (ha.run pos pins s σ H _ I h) fun us s1 hh => ?_) he hpl
  obtain ⟨vs, H1, I1, r, q⟩ := hh
  exact ⟨I1.kIn, go_fn F hgu hr hb hx I1 r q⟩
end
end TL
set_option linter.all false
set_option maxRecDepth 100000
set_option maxHeartbeats 1000000
set_option autoImplicit false
namespace TL
open PySem PySem.Spec PyProof.Rows L2
section
variable {X : Cx}
/-! ## comparisons -/
def rEqP (K : PySem.W.Frag) (neg : Bool) : R2 := fun x y H Q => ∃ d e, Dp K H x d ∧ Dp K H y e ∧ d.plain = true ∧ e.plain = true ∧ min d.depth e.depth ≤ 60 ∧ Q (.bl (if neg then !PyData.eqv d e else PyData.eqv d e)) H
theorem op_eqP (hu : X.A.units + 64 < cLine) : OpR X (compareOp .Eq) (rEqP X.K false) := by
  intro pins s σ H x y v u Q I rx ry ⟨d, e, hd, he, pd, pe, dep, q⟩
  obtain ⟨as, r1⟩ := Dp.reads I d x v hd rx
  obtain ⟨bs, r2⟩ := Dp.reads I e y u he ry
  exact SeqAt.eq_plain r1 r2 pd pe (by omega) ⟨.bl _, H, I, rfl, q⟩
theorem op_neP (hu : X.A.units + 64 < cLine) : OpR X (compareOp .NotEq) (rEqP X.K true) := by
  intro pins s σ H x y v u Q I rx ry ⟨d, e, hd, he, pd, pe, dep, q⟩
  obtain ⟨as, r1⟩ := Dp.reads I d x v hd rx
  obtain ⟨bs, r2⟩ := Dp.reads I e y u he ry
  exact SeqAt.ne_plain r1 r2 pd pe (by omega) ⟨.bl _, H, I, rfl, q⟩
@[simp] def nEq (d e : PyData) : Prop := d.plain = true ∧ e.plain = true ∧ min d.depth e.depth ≤ 60
theorem con_eq {K : PySem.W.Frag} : Con2 K (rEqP K false) (fun d e => .sh (.bool (PyData.eqv d e))) nEq :=
  con2_at (f := fun d e => .bool (PyData.eqv d e)) (fun x y d e H Q hx hy hn q => ⟨d, e, hx, hy, hn.1, hn.2.1, hn.2.2, q⟩) fun _ _ _ => trivial
theorem con_ne {K : PySem.W.Frag} : Con2 K (rEqP K true) (fun d e => .sh (.bool (!PyData.eqv d e))) nEq :=
  con2_at (f := fun d e => .bool (!PyData.eqv d e)) (fun x y d e H Q hx hy hn q => ⟨d, e, hx, hy, hn.1, hn.2.1, hn.2.2, q⟩) fun _ _ _ => trivial
def rOrd (K : PySem.W.Frag) (g : PyData → PyData → Bool) : R2 := fun x y H Q => ∃ d e, Dp K H x d ∧ Dp K H y e ∧ PySem.W.alike d e = true ∧ d ≠ .none ∧ min d.depth e.depth ≤ 60 ∧ Q (.bl (g d e)) H
theorem op_ltP (hu : X.A.units + 64 < cLine) : OpR X (compareOp .Lt) (rOrd X.K PySem.W.dataLt) := by
  intro pins s σ H x y v u Q I rx ry ⟨d, e, hd, he, al, nn, dep, q⟩
  obtain ⟨as, r1⟩ := Dp.reads I d x v hd rx
  obtain ⟨bs, r2⟩ := Dp.reads I e y u he ry
  exact PySem.W.lt_data r1 r2 al nn (by omega) ⟨.bl _, H, I, rfl, q⟩
theorem op_gtP (hu : X.A.units + 64 < cLine) : OpR X (compareOp .Gt) (rOrd X.K fun d e => PySem.W.dataLt e d) := by
  intro pins s σ H x y v u Q I rx ry ⟨d, e, hd, he, al, nn, dep, q⟩
  obtain ⟨as, r1⟩ := Dp.reads I d x v hd rx
  obtain ⟨bs, r2⟩ := Dp.reads I e y u he ry
  exact PySem.W.gt_data r1 r2 al nn (by omega) ⟨.bl _, H, I, rfl, q⟩
theorem op_leP (hu : X.A.units + 64 < cLine) : OpR X (compareOp .LtE) (rOrd X.K fun d e => !PySem.W.dataLt e d) := by
  intro pins s σ H x y v u Q I rx ry ⟨d, e, hd, he, al, nn, dep, q⟩
  obtain ⟨as, r1⟩ := Dp.reads I d x v hd rx
  obtain ⟨bs, r2⟩ := Dp.reads I e y u he ry
  exact PySem.W.le_data r1 r2 al nn (by omega) ⟨.bl _, H, I, rfl, q⟩
theorem op_geP (hu : X.A.units + 64 < cLine) : OpR X (compareOp .GtE) (rOrd X.K fun d e => !PySem.W.dataLt d e) := by
  intro pins s σ H x y v u Q I rx ry ⟨d, e, hd, he, al, nn, dep, q⟩
  obtain ⟨as, r1⟩ := Dp.reads I d x v hd rx
  obtain ⟨bs, r2⟩ := Dp.reads I e y u he ry
  exact PySem.W.ge_data r1 r2 al nn (by omega) ⟨.bl _, H, I, rfl, q⟩
@[simp] def nOrd (d e : PyData) : Prop := PySem.W.alike d e = true ∧ d ≠ .none ∧ min d.depth e.depth ≤ 60
theorem con_ord {K : PySem.W.Frag} {g : PyData → PyData → Bool} : Con2 K (rOrd K g) (fun d e => .sh (.bool (g d e))) nOrd :=
  con2_at (f := fun d e => .bool (g d e)) (fun x y d e H Q hx hy hn q => ⟨d, e, hx, hy, hn.1, hn.2.1, hn.2.2, q⟩) fun _ _ _ => trivial
/-- in, not in -/
def sIn (i j : Str) : Bool := !(Builtin.Str.occurrences j i 0 j.length 1).isEmpty
@[simp] def inD (d : PyData) : PyData → Bool
  | .list xs => xs.any fun y => PyData.eqv y d
  | .tuple xs => xs.any fun y => PyData.eqv y d
  | .str j => match d with
    | .str i => sIn i j
    | _ => false
  | _ => false
@[simp] def nIn (d : PyData) : PyData → Prop
  | .list xs => PyData.plainAll xs = true ∧ d.plain = true ∧ min (PyData.depthAll xs) d.depth ≤ 60
  | .tuple xs => PyData.plainAll xs = true ∧ d.plain = true ∧ min (PyData.depthAll xs) d.depth ≤ 60
  | .str _ => match d with
    | .str _ => True
    | _ => False
  | _ => False
def rInP (K : PySem.W.Frag) (neg : Bool) : R2 := fun x y H Q => ∃ d e, Dp K H x d ∧ Dp K H y e ∧ nIn d e ∧ Q (.bl (if neg then !inD d e else inD d e)) H
theorem op_inP (hu : X.A.units + 64 < cLine) : OpR X (compareOp .In) (rInP X.K false) := by
  intro pins s σ H x y v u Q I rx ry ⟨d, e, hd, he, hn, q⟩
  cases e with
  | list xs =>
    obtain ⟨as, r1⟩ := Dp.reads I d x v hd rx
    obtain ⟨bs, r2⟩ := Dp.reads I _ y u he ry
    have h3 := hn.2.2
    exact SeqAt.in_list_data r2 r1 hn.1 hn.2.1 (by omega) ⟨.bl _, H, I, rfl, q⟩
  | tuple xs =>
    obtain ⟨as, r1⟩ := Dp.reads I d x v hd rx
    obtain ⟨bs, r2⟩ := Dp.reads I _ y u he ry
    have h3 := hn.2.2
    exact SeqAt.in_tuple_data r2 r1 hn.1 hn.2.1 (by omega) ⟨.bl _, H, I, rfl, q⟩
  | str j =>
    cases d with
    | str i => exact op_in_str pins s σ H x y v u Q I rx ry ⟨i, j, dp_str hd, dp_str he, q⟩
    | _ => exact hn.elim
  | _ => exact hn.elim
theorem op_notInP (hu : X.A.units + 64 < cLine) : OpR X (compareOp .NotIn) (rInP X.K true) := by
  intro pins s σ H x y v u Q I rx ry ⟨d, e, hd, he, hn, q⟩
  cases e with
  | list xs =>
    obtain ⟨as, r1⟩ := Dp.reads I d x v hd rx
    obtain ⟨bs, r2⟩ := Dp.reads I _ y u he ry
    have h3 := hn.2.2
    exact SeqAt.notIn_list_data r2 r1 hn.1 hn.2.1 (by omega) ⟨.bl _, H, I, rfl, q⟩
  | tuple xs =>
    obtain ⟨as, r1⟩ := Dp.reads I d x v hd rx
    obtain ⟨bs, r2⟩ := Dp.reads I _ y u he ry
    have h3 := hn.2.2
    exact SeqAt.notIn_tuple_data r2 r1 hn.1 hn.2.1 (by omega) ⟨.bl _, H, I, rfl, q⟩
  | str j =>
    cases d with
    | str i => exact op_notin_str pins s σ H x y v u Q I rx ry ⟨i, j, dp_str hd, dp_str he, q⟩
    | _ => exact hn.elim
  | _ => exact hn.elim
theorem con_in {K : PySem.W.Frag} : Con2 K (rInP K false) (fun d e => .sh (.bool (inD d e))) nIn :=
  con2_at (f := fun d e => .bool (inD d e)) (fun x y d e H Q hx hy hn q => ⟨d, e, hx, hy, hn, q⟩) fun _ _ _ => trivial
theorem con_notIn {K : PySem.W.Frag} : Con2 K (rInP K true) (fun d e => .sh (.bool (!inD d e))) nIn :=
  con2_at (f := fun d e => .bool (!inD d e)) (fun x y d e H Q hx hy hn q => ⟨d, e, hx, hy, hn, q⟩) fun _ _ _ => trivial
/-- is None -/
@[simp] def isNone : PyData → Bool
  | .none => true
  | _ => false
theorem isNone_dp {K : PySem.W.Frag} {H : Hp} {x : V} {d : PyData} (h : Dp K H x d) : decide (x = V.non) = isNone d := by
  cases h <;> rfl
def rIsN : R2 := fun x y H Q => y = .non ∧ Q (.bl (decide (x = .non))) H
def rNotN : R2 := fun x y H Q => y = .non ∧ Q (.bl (!decide (x = .non))) H
@[simp] def nIsN (_ e : PyData) : Prop := e = .none
theorem con_isN {K : PySem.W.Frag} : Con2 K rIsN (fun d _ => .sh (.bool (isNone d))) nIsN :=
  con2_at (f := fun d _ => .bool (isNone d)) (fun x y d e H Q hx hy hn q => ⟨dp_non (by rw [hn] at hy; exact hy), by rw [isNone_dp hx]; exact q⟩) fun _ _ _ => trivial
theorem con_notN {K : PySem.W.Frag} : Con2 K rNotN (fun d _ => .sh (.bool (!isNone d))) nIsN :=
  con2_at (f := fun d _ => .bool (!isNone d)) (fun x y d e H Q hx hy hn q => ⟨dp_non (by rw [hn] at hy; exact hy), by rw [isNone_dp hx]; exact q⟩) fun _ _ _ => trivial
/-! ## items and slices -/
@[simp] def ixD : PyData → PyData → PyData
  | .list xs, .int i => (atI xs i).getD .none
  | .tuple xs, .int i => (atI xs i).getD .none
  | .str z, .int i => .str ⟨#[(atI z.cps.toList i).getD 0]⟩
  | _, _ => .none
@[simp] def nIx : PyData → PyData → Prop
  | .list xs, .int i => (atI xs i).isSome = true
  | .tuple xs, .int i => (atI xs i).isSome = true
  | .str z, .int i => z.length ≤ sizeLine ∧ (atI z.cps.toList i).isSome = true
  | _, _ => False
theorem dpAll_atI {K : PySem.W.Frag} {R : Hp} {xs : List V} {ds : List PyData} (h : DpAll K R xs ds) {i : Int} (hs : (atI ds i).isSome = true) : ∃ v, atI xs i = some v ∧ Dp K R v ((atI ds i).getD .none) := by
  obtain ⟨d, e⟩ := Option.isSome_iff_exists.mp hs
  unfold atI at e ⊢
  rw [dpAll_len h]
  cases q : ixN ds.length i with
  | none => rw [q] at e; cases e
  | some j =>
    rw [q] at e
    have e' : ds[j]? = some d := e
    obtain ⟨x, hx, hd⟩ := dpAll_get' h e'
    refine ⟨x, hx, ?_⟩
    show Dp K R x ((ds[j]?).getD .none)
    rw [e']; exact hd
theorem con_ix {K : PySem.W.Frag} : Con2 K (rIx K) (fun d e => .sh (ixD d e)) nIx := by
  intro x y d e R H Q s hx hy hn k
  cases e with
  | int i =>
    have ey := dp_int hy.1
    cases d with
    | list xs =>
      obtain ⟨a, vs, rfl, hs, ha⟩ := hx.2
      obtain ⟨v, ev, hv⟩ := dpAll_atI ha hn
      exact .inl ⟨a, vs, i, v, rfl, ey, hs, ev, k v R H [] (.refl s) (.sh hv)⟩
    | tuple xs =>
      obtain ⟨a, vs, rfl, hs, ha⟩ := hx.2
      obtain ⟨v, ev, hv⟩ := dpAll_atI ha hn
      exact .inr (.inl ⟨a, vs, i, v, rfl, ey, hs, ev, k v R H [] (.refl s) (.sh hv)⟩)
    | str z =>
      obtain ⟨c, ec⟩ := Option.isSome_iff_exists.mp hn.2
      refine .inr (.inr ⟨z, i, c, dp_str hx.1, ey, hn.1, ec, k _ R H [] (.refl s) (.sh ?_)⟩)
      show Dp K R _ (.str ⟨#[(atI z.cps.toList i).getD 0]⟩)
      rw [ec]; exact .str _
    | _ => exact hn.elim
  | _ => cases d <;> exact hn.elim
def cutL (xs : List PyData) (lo hi : Option Int) : List PyData := (xs.drop (HT.sIx xs.length 0 lo)).take (HT.sIx xs.length xs.length hi - HT.sIx xs.length 0 lo)
theorem dpAll_drop {K : PySem.W.Frag} {R : Hp} : ∀ (n : Nat) {xs : List V} {ds : List PyData}, DpAll K R xs ds → DpAll K R (xs.drop n) (ds.drop n)
  | 0, _, _, h => h
  | n + 1, _, _, .nil => .nil
  | n + 1, _, _, .cons _ t => dpAll_drop n t
theorem dpAll_take {K : PySem.W.Frag} {R : Hp} : ∀ (n : Nat) {xs : List V} {ds : List PyData}, DpAll K R xs ds → DpAll K R (xs.take n) (ds.take n)
  | 0, _, _, _ => .nil
  | n + 1, _, _, .nil => .nil
  | n + 1, _, _, .cons h t => .cons h (dpAll_take n t)
theorem dpAll_cut {K : PySem.W.Frag} {R : Hp} {xs : List V} {ds : List PyData} (h : DpAll K R xs ds) (lo hi : Option Int) : DpAll K R (cutV xs lo hi) (cutL ds lo hi) := by
  unfold cutV cutL
  rw [dpAll_len h]
  exact dpAll_take _ (dpAll_drop _ h)
@[simp] def slD (lo hi : Option Int) : PyData → O
  | .list xs => .lst (cutL xs lo hi)
  | .str z => .sh (.str (cutS z lo hi))
  | _ => .sh .none
@[simp] def nSl : PyData → Prop
  | .list _ => True
  | .str z => z.length ≤ sizeLine
  | _ => False
def rSl (K : PySem.W.Frag) : V → Option Int → Option Int → Hp → VK → Prop := fun x lo hi H Q => rSlL K x lo hi H Q ∨ rSlS x lo hi H Q
theorem con_sl {K : PySem.W.Frag} (lo hi : Option Int) : Con1 K (fun x H Q => rSl K x lo hi H Q) (slD lo hi) nSl := by
  intro x d R H Q s hx hn k
  cases d with
  | list xs =>
    obtain ⟨a, vs, rfl, hs, ha⟩ := hx.2
    refine .inl ⟨a, vs, rfl, hs, fun p hp => ?_⟩
    obtain ⟨p1, r1⟩ := new_lst (.refl s) hp (dpAll_cut ha lo hi)
    exact k _ _ _ _ p1 r1
  | str z => exact .inr ⟨z, dp_str hx.1, hn, k _ R H [] (.refl s) (.sh (.str _))⟩
  | _ => exact hn.elim
/-- a part of a slice -/
@[simp] def asI : PyData → Int
  | .int i => i
  | _ => 0
@[simp] def isI : PyData → Prop
  | .int _ => True
  | _ => False
def POt (K : PySem.W.Frag) (o : Env → Option Int) (n : Env → Prop) : TO := fun σ H Q => ∃ R ρ fps, G K R H σ ρ fps ∧ n ρ ∧ ∀ R' H', PStep R H R' H' → Q (o ρ) H'
theorem po_mono {e : Option Expr} {t t' : TO} (h : PO X e t) (m : ∀ σ H Q, t' σ H Q → t σ H Q) : PO X e t' := ⟨fun pins s σ H Q I q => h.run pins s σ H Q I (m σ H Q q)⟩
theorem po_n : PO X none (POt X.K (fun _ => none) fun _ => True) := po_mono po_none fun σ H Q ⟨R, ρ, fps, g, _, k⟩ => k R H (.refl g.sub)
variable {va vb : Env → W} {na nb : Env → Prop}
theorem po_s {e : Expr} (h : PV X e va na) : PO X (some e) (POt X.K (fun ρ => some (asI (view ρ (va ρ)))) fun ρ => na ρ ∧ isI (view ρ (va ρ))) := by
  refine po_mono (po_some h) fun σ H Q ⟨R, ρ, fps, g, ⟨h1, h2⟩, k⟩ => ⟨R, ρ, fps, g, h1, fun v R1 H1 fv p r => ?_⟩
  have q := r.dp (g.step p)
  cases e : view ρ (va ρ) with
  | int i =>
    rw [e] at q
    have k' : Q (some (asI (view ρ (va ρ)))) H1 := k R1 H1 p
    rw [e] at k'
    exact ⟨i, dp_int q, k'⟩
  | _ => rw [e] at h2; exact h2.elim
theorem pv_slice {e : Expr} {lo hi : Option Expr} {ol oh : Env → Option Int} {nl nh : Env → Prop} {p2 pos : Pos} (he : PV X e va na) (hl : PO X lo (POt X.K ol nl)) (hh : PO X hi (POt X.K oh nh)) :
    PV X (.Subscript e (.Slice lo hi none p2) pos) (fun ρ => .o (slD (ol ρ) (oh ρ) (view ρ (va ρ)))) (fun ρ => na ρ ∧ nl ρ ∧ nh ρ ∧ okEl ρ (va ρ) ∧ nSl (view ρ (va ρ))) := by
  refine pe_mono (pe_slice (SlR.or sl_list sl_str) he hl hh) fun σ H Q ⟨R, ρ, fps, g, ⟨h1, h2, h3, h4, h5⟩, k⟩ => ⟨R, ρ, fps, g, h1, fun x R1 H1 fx p r => ?_⟩
  refine ⟨R1, ρ, fps, g.step p, h2, fun R2 H2 p2 => ⟨R2, ρ, fps, (g.step p).step p2, h3, fun R3 H3 p3 => ?_⟩⟩
  have r3 := (r.keep p2).keep p3
  have p4 := p.trans (p2.trans p3)
  have ps := share_step p4 r3
  refine con_sl (ol ρ) (oh ρ) x _ (share R3 H3 fx) H3 Q ps.sub (r3.opd g p4 h4) h5 fun v R' H' fv p' ro => ?_
  exact k v R' H' fv (ps.trans p') (ro.older p4.h).rw
theorem pv_ix {a b : Expr} {pos : Pos} (ha : PV X a va na) (hb : PV X b vb nb) (hs : PlainIx b := by exact fun _ _ => rfl) : PV X (.Subscript a b pos) (pv2 (fun d e => .sh (ixD d e)) va vb) (pn2 nIx va vb na nb) :=
  pv_bin (pe_ix ix_seq ha hb hs) con_ix
/-! ## the operators in short -/
variable {a b : Expr} {pos : Pos}
theorem pv_add (ha : PV X a va na) (hb : PV X b vb nb) : PV X (.BinOp a .Add b pos) (pv2 dAdd va vb) (pn2 nAdd va vb na nb) := pv_bin (pe_op op_plus ha hb) con_plus
theorem pv_sub (ha : PV X a va na) (hb : PV X b vb nb) : PV X (.BinOp a .Sub b pos) (pv2 (fun d e => .sh (dI2 (fun i j => .int (i - j)) d e)) va vb) (pn2 (nI2 fun _ _ => True) va vb na nb) := pv_bin (pe_op op_sub ha hb) con_rI0
theorem pv_mul (ha : PV X a va na) (hb : PV X b vb nb) : PV X (.BinOp a .Mult b pos) (pv2 (fun d e => .sh (dI2 (fun i j => .int (i * j)) d e)) va vb) (pn2 (nI2 CMul) va vb na nb) := pv_bin (pe_op op_mul ha hb) con_rI
theorem pv_fdiv (ha : PV X a va na) (hb : PV X b vb nb) : PV X (.BinOp a .FloorDiv b pos) (pv2 (fun d e => .sh (dI2 (fun i j => .int (i / j)) d e)) va vb) (pn2 (nI2 CDiv) va vb na nb) := pv_bin (pe_op op_fdiv ha hb) con_rI
theorem pv_mod (ha : PV X a va na) (hb : PV X b vb nb) : PV X (.BinOp a .Mod b pos) (pv2 (fun d e => .sh (dI2 (fun i j => .int (i % j)) d e)) va vb) (pn2 (nI2 fun _ j => 0 < j) va vb na nb) := pv_bin (pe_op op_mod ha hb) con_rI
theorem pv_pow (ha : PV X a va na) (hb : PV X b vb nb) : PV X (.BinOp a .Pow b pos) (pv2 (fun d e => .sh (dI2 (fun i j => .int (i ^ j.toNat)) d e)) va vb) (pn2 (nI2 CPow) va vb na nb) := pv_bin (pe_op op_pow ha hb) con_rI
theorem con_neg {K : PySem.W.Frag} : Con1 K (rU fun i => .int (-i)) (fun d => .sh (.int (-asI d))) isI :=
  con1_at (f := fun d => .int (-asI d)) (fun x d H Q hx hn q => by
    cases d with
    | int i => exact ⟨i, dp_int hx, q⟩
    | _ => exact hn.elim) fun _ _ => trivial
theorem pv_neg (ha : PV X a va na) : PV X (.UnaryOp .USub a pos) (pv1 (fun d => .sh (.int (-asI d))) va) (pn1 isI va na) := pv_un (pe_un un_neg ha) con_neg
end
end TL
set_option linter.all false
set_option maxRecDepth 100000
set_option maxHeartbeats 1000000
set_option autoImplicit false
namespace TL
open PySem PySem.Spec PyProof.Rows L2
section
variable {X : Cx} {K : PySem.W.Frag}
theorem opds1 {R H : Hp} {xs : List V} {ds : List PyData} (h : Opds K R H xs ds) {d : PyData} (e : ds = [d]) : ∃ x, xs = [x] ∧ Opd K R H x d := by
  subst e
  cases h with
  | cons h1 h2 => cases h2; exact ⟨_, rfl, h1⟩
theorem opds2 {R H : Hp} {xs : List V} {ds : List PyData} (h : Opds K R H xs ds) {d e : PyData} (he : ds = [d, e]) : ∃ x y, xs = [x, y] ∧ Opd K R H x d ∧ Opd K R H y e := by
  subst he
  cases h with
  | cons h1 h2 =>
    obtain ⟨y, rfl, h3⟩ := opds1 h2 rfl
    exact ⟨_, _, rfl, h1, h3⟩
/-- one argument, an atom -/
@[simp] def f1 (f : PyData → O) : List PyData → O
  | [d] => f d
  | _ => .sh .none
@[simp] def n1 (n : PyData → Prop) : List PyData → Prop
  | [d] => n d
  | _ => False
@[simp] def f2 (f : PyData → PyData → O) : List PyData → O
  | [d, e] => f d e
  | _ => .sh .none
@[simp] def n2 (n : PyData → PyData → Prop) : List PyData → Prop
  | [d, e] => n d e
  | _ => False
theorem conC1 {r : List V → Hp → VK → Prop} {f : PyData → O} {n : PyData → Prop} (C : Con1 K (fun x H Q => r [x] H Q) f n) : ConC K r (f1 f) (n1 n) := by
  intro xs ds R H Q s ho hn k
  match ds, hn with
  | [d], hn =>
    obtain ⟨x, rfl, o⟩ := opds1 ho rfl
    exact C x d R H Q s o hn k
theorem conC2 {r : List V → Hp → VK → Prop} {f : PyData → PyData → O} {n : PyData → PyData → Prop} (C : Con2 K (fun x y H Q => r [x, y] H Q) f n) : ConC K r (f2 f) (n2 n) := by
  intro xs ds R H Q s ho hn k
  match ds, hn with
  | [d, e], hn =>
    obtain ⟨x, y, rfl, o1, o2⟩ := opds2 ho rfl
    exact C x y d e R H Q s o1 o2 hn k
/-! ### len -/
@[simp] def lenD : PyData → Int
  | .list xs => xs.length
  | .tuple xs => xs.length
  | .str x => x.length
  | _ => 0
@[simp] def nLen : PyData → Prop
  | .list _ => True
  | .tuple _ => True
  | .str x => x.length ≤ sizeLine
  | _ => False
theorem con_len : ConC K (fun xs H Q => ∃ x n, xs = [x] ∧ LenV K x H n ∧ Q (.int (n : Nat)) H) (f1 fun d => .sh (.int (lenD d))) (n1 nLen) := by
  refine conC1 (f := fun d => .sh (.int (lenD d))) fun x d R H Q s hx hn k => ?_
  have q := k (.int (lenD d)) R H [] (.refl s) (.sh (.int _))
  cases d with
  | list xs =>
    obtain ⟨a, vs, rfl, hs, ha⟩ := hx.2
    exact ⟨_, xs.length, rfl, .inl ⟨vs, hs, (dpAll_len ha).symm⟩, q⟩
  | tuple xs =>
    obtain ⟨a, vs, rfl, hs, ha⟩ := hx.2
    exact ⟨_, xs.length, rfl, .inr ⟨vs, hs, (dpAll_len ha).symm⟩, q⟩
  | str z => rw [dp_str hx.1]; exact ⟨_, z.length, rfl, ⟨hn, rfl⟩, q⟩
  | _ => exact hn.elim
/-! ### min, max of two ints, abs, int -/
theorem con_min2 : ConC K (fun xs H Q => ∃ i j : Int, xs = [.int i, .int j] ∧ Q (.int (if j < i then j else i)) H) (f2 fun d e => .sh (dI2 (fun i j => .int (if j < i then j else i)) d e)) (n2 (nI2 fun _ _ => True)) :=
  conC2 (f := fun d e => .sh (dI2 (fun i j => .int (if j < i then j else i)) d e)) (con_i2 (fun _ _ => trivial) fun i j H Q _ q => ⟨i, j, rfl, q⟩)
theorem con_max2 : ConC K (fun xs H Q => ∃ i j : Int, xs = [.int i, .int j] ∧ Q (.int (if j > i then j else i)) H) (f2 fun d e => .sh (dI2 (fun i j => .int (if j > i then j else i)) d e)) (n2 (nI2 fun _ _ => True)) :=
  conC2 (f := fun d e => .sh (dI2 (fun i j => .int (if j > i then j else i)) d e)) (con_i2 (fun _ _ => trivial) fun i j H Q _ q => ⟨i, j, rfl, q⟩)
theorem con_I1 {r : List V → Hp → VK → Prop} {f : Int → PyData} (hf : ∀ i, isAt (f i)) (hr : ∀ i H Q, Q (toV (f i)) H → r [.int i] H Q) : ConC K r (f1 fun d => .sh (f (asI d))) (n1 isI) :=
  conC1 (con1_at (f := fun d => f (asI d)) (fun x d H Q hx hn q => by
    cases d with
    | int i => rw [dp_int hx]; exact hr i H Q q
    | _ => exact hn.elim) fun d _ => hf _)
theorem con_abs : ConC K (fun xs H Q => ∃ i : Int, xs = [.int i] ∧ Q (.int (if i < 0 then -i else i)) H) (f1 fun d => .sh (.int (if asI d < 0 then -asI d else asI d))) (n1 isI) :=
  con_I1 (f := fun i => .int (if i < 0 then -i else i)) (fun _ => trivial) fun i H Q q => ⟨i, rfl, q⟩
theorem con_int : ConC K (fun xs H Q => (∃ i : Int, xs = [.int i] ∧ Q (.int i) H) ∨ ∃ k : Bool, xs = [.bl k] ∧ Q (.int (if k then 1 else 0)) H) (f1 fun d => .sh (.int (asI d))) (n1 isI) :=
  con_I1 (f := fun i => .int i) (fun _ => trivial) fun i H Q q => .inl ⟨i, rfl, q⟩
/-! ### all, any, sum -/
@[simp] def asBs : PyData → List Bool
  | .list ds => ds.map asB
  | _ => []
@[simp] def isBs : PyData → Prop
  | .list ds => ∀ d ∈ ds, isB d
  | _ => False
theorem dpAll_bls {R : Hp} {xs : List V} {ds : List PyData} (h : DpAll K R xs ds) (hb : ∀ d ∈ ds, isB d) : xs = (ds.map asB).map V.bl := by
  induction ds generalizing xs with
  | nil => cases h; rfl
  | cons d ds ih =>
    cases h with
    | cons h1 h2 =>
      rw [List.map_cons, List.map_cons, ← ih h2 fun e he => hb e (List.mem_cons_of_mem _ he), view_bl h1 (hb d List.mem_cons_self)]
theorem con_all : ConC K (rAll K) (f1 fun d => .sh (.bool ((asBs d).all _root_.id))) (n1 isBs) := by
  refine conC1 (f := fun d => .sh (.bool ((asBs d).all _root_.id))) fun x d R H Q s hx hn k => ?_
  cases d with
  | list xs =>
    obtain ⟨a, vs, rfl, hs, ha⟩ := hx.2
    rw [dpAll_bls ha hn] at hs
    exact ⟨a, _, rfl, hs, k _ R H [] (.refl s) (.sh (.bl _))⟩
  | _ => exact hn.elim
theorem con_any : ConC K (rAny K) (f1 fun d => .sh (.bool ((asBs d).any _root_.id))) (n1 isBs) := by
  refine conC1 (f := fun d => .sh (.bool ((asBs d).any _root_.id))) fun x d R H Q s hx hn k => ?_
  cases d with
  | list xs =>
    obtain ⟨a, vs, rfl, hs, ha⟩ := hx.2
    rw [dpAll_bls ha hn] at hs
    exact ⟨a, _, rfl, hs, k _ R H [] (.refl s) (.sh (.bl _))⟩
  | _ => exact hn.elim
@[simp] def asIs : PyData → List Int
  | .list ds => ds.map asI
  | _ => []
@[simp] def isIs : PyData → Prop
  | .list ds => ∀ d ∈ ds, isI d
  | _ => False
theorem dpAll_ints {R : Hp} {xs : List V} {ds : List PyData} (h : DpAll K R xs ds) (hb : ∀ d ∈ ds, isI d) : xs = (ds.map asI).map V.int := by
  induction ds generalizing xs with
  | nil => cases h; rfl
  | cons d ds ih =>
    cases h with
    | cons h1 h2 =>
      rw [List.map_cons, List.map_cons, ← ih h2 fun e he => hb e (List.mem_cons_of_mem _ he)]
      have q := hb d List.mem_cons_self
      cases d with
      | int i => rw [dp_int h1]; rfl
      | _ => exact q.elim
theorem con_sum : ConC K (rSum K) (f1 fun d => .sh (.int (asIs d).sum)) (n1 isIs) := by
  refine conC1 (f := fun d => .sh (.int (asIs d).sum)) fun x d R H Q s hx hn k => ?_
  cases d with
  | list xs =>
    obtain ⟨a, vs, rfl, hs, ha⟩ := hx.2
    rw [dpAll_ints ha hn] at hs
    exact ⟨a, _, rfl, hs, k _ R H [] (.refl s) (.sh (.int _))⟩
  | _ => exact hn.elim
/-! ### list(..), tuple(..) of a list, a tuple -/
@[simp] def seqOf : PyData → List PyData
  | .list xs => xs
  | .tuple xs => xs
  | .str z => z.cps.toList.map fun c => .str ⟨#[c]⟩
  | _ => []
@[simp] def isSq : PyData → Prop
  | .list _ => True
  | .tuple _ => True
  | _ => False
def rListOf (K : PySem.W.Frag) : List V → Hp → VK → Prop := fun xs H Q => ∃ p ys, xs = [.ref p] ∧ (SqL K H p ys ∨ SqT K H p ys) ∧ ∀ l, H l = none → Q (.ref l) (upd H l (.lst ys))
def rListStr : List V → Hp → VK → Prop := fun xs H Q => ∃ z : Str, xs = [.str z] ∧ z.length ≤ sizeLine ∧ ∀ l, H l = none → Q (.ref l) (upd H l (.lst (z.cps.toList.map fun c => V.str ⟨#[c]⟩)))
theorem paired_get {α β : Type} {F : α → β → Prop} : ∀ {xs : List α} {us : List β}, xs.length = us.length → (∀ (i : Nat) (x : α) (u : β), xs[i]? = some x → us[i]? = some u → F x u) → Paired F xs us
  | [], [], _, _ => .nil
  | [], _ :: _, h, _ => by simp at h
  | _ :: _, [], h, _ => by simp at h
  | x :: xs, u :: us, h, k => .cons (k 0 x u rfl rfl) (paired_get (by simpa using h) fun i y v e1 e2 => k (i + 1) y v (by simpa using e1) (by simpa using e2))
theorem call_listStr (hc : X.calm = true) : CallR X (.type "list") rListStr := by
  intro pins s σ H xs us Q I r ⟨z, e, hz, q⟩
  subst e
  obtain ⟨u, rfl, t, rfl⟩ := vals1 r
  refine call_list_str (I.ok.hd hc) z t (hn := hz) fun h' tk acc c kp e it => ?_
  have va : Vals (z.cps.toList.map fun c => V.str ⟨#[c]⟩) acc.toList := by
    obtain ⟨n1, n2⟩ := it
    refine paired_get (by rw [List.length_map, Array.length_toList, Array.length_toList, n1]) fun i x u hx hu => ?_
    rw [Array.getElem?_toList] at hu
    obtain ⟨c, t', e1, rfl⟩ := n2 i u hu
    rw [List.getElem?_map, Array.getElem?_toList, e1] at hx
    have hx' : V.str ⟨#[c]⟩ = x := Option.some.inj hx
    subst hx'; exact ⟨t', rfl⟩
  have hl : (z.cps.toList.map fun c => V.str ⟨#[c]⟩).length ≤ sizeLine := by
    rw [List.length_map, Array.length_toList]; exact hz
  exact ⟨.ref _, _, I.laid (t' := tk) kp (Nat.le_refl _) (show ObjOk X.prog X.w _ h' _ (.lst _) from ⟨hl, acc.toList, c, va, by simpa using e⟩), rfl, q _ I.fresh⟩
theorem con_list : ConC K (fun xs H Q => rListOf K xs H Q ∨ rListStr xs H Q) (f1 fun d => .lst (seqOf d)) (n1 nLen) := by
  refine conC1 (f := fun d => .lst (seqOf d)) fun x d R H Q s hx hn k => ?_
  cases d with
  | list xs =>
    obtain ⟨a, vs, rfl, hs, ha⟩ := hx.2
    refine .inl ⟨a, vs, rfl, .inl hs, fun p hp => ?_⟩
    obtain ⟨p1, r1⟩ := new_lst (.refl s) hp ha
    exact k _ _ _ _ p1 r1
  | tuple xs =>
    obtain ⟨a, vs, rfl, hs, ha⟩ := hx.2
    refine .inl ⟨a, vs, rfl, .inr hs, fun p hp => ?_⟩
    obtain ⟨p1, r1⟩ := new_lst (.refl s) hp ha
    exact k _ _ _ _ p1 r1
  | str z =>
    refine .inr ⟨z, by rw [dp_str hx.1], hn, fun p hp => ?_⟩
    have ha : DpAll K R (z.cps.toList.map fun c => V.str ⟨#[c]⟩) (z.cps.toList.map fun c => PyData.str ⟨#[c]⟩) := by
      generalize z.cps.toList = l
      induction l with
      | nil => exact .nil
      | cons c l ih => exact .cons (.str _) ih
    obtain ⟨p1, r1⟩ := new_lst (.refl s) hp ha
    exact k _ _ _ _ p1 r1
  | _ => exact hn.elim
/-! ### sorted, min, max of alike data -/
def rSortD (K : PySem.W.Frag) : List V → Hp → VK → Prop := fun xs H Q => ∃ a ds R, xs = [.ref a] ∧ Same R H ∧ (∃ vs, SqL K H a vs ∧ DpAll K R vs ds) ∧ PySem.W.AllAlike ds ∧ PySem.W.Sortable ds ∧ PyData.depthAll ds ≤ 50 ∧ ds.length ≤ sizeLine ∧
  ∀ p ys, H p = none → DpAll K R ys (ds.mergeSort (PySem.W.dataLe false _root_.id)) → Q (.ref p) (upd H p (.lst ys))
theorem each_of {pins : List (Addr × Obj)} {σ : L2.St} {H R : Hp} {s : Shared} (I : Inv X pins σ H s) (sb : Same R H) : ∀ {vs : List V} {us : List Value} {ds : List PyData}, DpAll X.K R vs ds → Vals vs us →
    PySem.W.EachIs (fun u d => ∃ x, RelV x u ∧ Dp X.K R x d) us ds ∧ PySem.W.EachIs (fun u d => ∃ as, Reads s.heap u d as) us ds
  | _, _, _, .nil, .nil => ⟨.nil, .nil⟩
  | _, _, _, .cons h1 h2, .cons r1 r2 => by
    obtain ⟨a, b⟩ := each_of I sb h2 r2
    exact ⟨.cons ⟨_, r1, h1⟩ a, .cons (Dp.reads I _ _ _ (dp_mono sb _ _ h1) r1) b⟩
theorem of_each {R : Hp} : ∀ {us : List Value} {ds : List PyData}, PySem.W.EachIs (fun u d => ∃ x, RelV x u ∧ Dp K R x d) us ds → ∃ ys, Vals ys us ∧ DpAll K R ys ds
  | _, _, .nil => ⟨[], .nil, .nil⟩
  | _, _, .cons ⟨x, h1, h2⟩ t => by
    obtain ⟨ys, h3, h4⟩ := of_each t
    exact ⟨x :: ys, .cons h1 h3, .cons h2 h4⟩
theorem depth_le_all : ∀ {ds : List PyData} {d : PyData}, d ∈ ds → d.depth ≤ PyData.depthAll ds
  | e :: ds, d, h => by
    rw [PyData.depthAll]
    rcases List.mem_cons.mp h with rfl | h
    · exact Nat.le_max_left _ _
    · exact Nat.le_trans (depth_le_all h) (Nat.le_max_right _ _)
theorem call_sortD (hu : X.A.units + 64 < cLine) : CallR X (.builtin "sorted") (rSortD X.K) := by
  intro pins s σ H xs us Q I r ⟨a, ds, R, e, sb, ⟨vs, hs, ha⟩, al, so, dep, hL, q⟩
  subst e
  obtain ⟨its, rv, pl, hz⟩ := I.list hs
  rw [Vals.ref1 r]
  obtain ⟨e1, e2⟩ := each_of I sb ha rv
  have hl1 := dpAll_len ha
  refine PySem.W.sorted_data (enc := _root_.id) (bs := ds) pl.isList e1 e2 (by rw [List.map_id]; exact al) (by rw [List.map_id]; exact so) hL (fun b hb => ?_) fun out ho eo => ?_
  · have h := depth_le_all hb
    show X.A.units + 2 + b.depth < cLine
    omega
  · obtain ⟨ys, h1, h2⟩ := of_each eo
    obtain ⟨ep, he'⟩ := PyProof.Rows.sortedAll_at s.heap its (List.toArray out)
    have hys : ys.length ≤ sizeLine := by rw [h1.length, ho]; exact hL
    exact ⟨.ref _, _, I.laid (t' := s.toks) (fun _ _ => PyProof.Rows.sortedAll_old) (Nat.le_succ _) (show ObjOk X.prog X.w _ _ _ (.lst ys) from ⟨hys, out, ep, h1, he'⟩), rfl, q _ ys (I.hok.fresh (Nat.le_succ _)) h2⟩
@[simp] def sortD : PyData → O
  | .list ds => .lst (ds.mergeSort (PySem.W.dataLe false _root_.id))
  | _ => .sh .none
@[simp] def nSort : PyData → Prop
  | .list ds => PySem.W.AllAlike ds ∧ PySem.W.Sortable ds ∧ PyData.depthAll ds ≤ 50 ∧ ds.length ≤ sizeLine
  | _ => False
theorem con_sort : ConC K (rSortD K) (f1 sortD) (n1 nSort) := by
  refine conC1 (f := sortD) fun x d R H Q s hx hn k => ?_
  cases d with
  | list xs =>
    obtain ⟨a, vs, rfl, hs, ha⟩ := hx.2
    refine ⟨a, xs, R, rfl, s, ⟨vs, hs, ha⟩, hn.1, hn.2.1, hn.2.2.1, hn.2.2.2, fun p ys hp hy => ?_⟩
    obtain ⟨p1, r1⟩ := new_lst (.refl s) hp hy
    exact k _ _ _ _ p1 r1
  | _ => exact hn.elim
def rMinD (K : PySem.W.Frag) (g : PyData → List PyData → PyData) : List V → Hp → VK → Prop := fun xs H Q => ∃ a d ds R, xs = [.ref a] ∧ Same R H ∧ (∃ vs, SqL K H a vs ∧ DpAll K R vs (d :: ds)) ∧ PySem.W.AlikeAll (d :: ds) ∧ PyData.plainAll (d :: ds) = true ∧ PyData.depthAll (d :: ds) ≤ 50 ∧
  ∀ v, Dp K R v (g d ds) → Q v H
theorem plain_of_mem : ∀ {ds : List PyData} {d : PyData}, PyData.plainAll ds = true → d ∈ ds → d.plain = true
  | e :: ds, d, h, hm => by
    rw [PyData.plainAll, Bool.and_eq_true] at h
    rcases List.mem_cons.mp hm with rfl | hm
    · exact h.1
    · exact plain_of_mem h.2 hm
theorem best_back {pins : List (Addr × Obj)} {σ : L2.St} {H R : Hp} {s : Shared} {vs : List V} {its : List Value} {ds : List PyData} {m : PyData} {Q : VK} (I : Inv X pins σ H s) (sb : Same R H) (ha : DpAll X.K R vs ds) (rv : Vals vs its) (pl : PyData.plainAll ds = true)
    {i : Nat} {v : Value} {h' : Heap} {tk : Nat} {bs : List Addr} (hv : its.toArray[i]? = some v) (r : Reads h' v m bs) (hk : ∀ b o, s.heap.get? b = some o → h'.get? b = some o) (q : ∀ x, Dp X.K R x m → Q x H) :
    EP X pins σ Q v { s with heap := h', toks := tk } := by
  have hv' : its[i]? = some v := by simpa using hv
  have hi : i < vs.length := by rw [rv.length]; exact (List.getElem?_eq_some_iff.mp hv').1
  obtain ⟨u, e1, rx⟩ := rv.get (List.getElem?_eq_getElem hi)
  rw [hv'] at e1; cases e1
  obtain ⟨d, ed, hd⟩ := dpAll_get ha (List.getElem?_eq_getElem hi)
  have J : Inv X pins σ H { s with heap := h', toks := tk } := I.kept hk
  obtain ⟨as, rd⟩ := Dp.reads J d _ v (dp_mono sb _ _ hd) rx
  have em : d = m := SeqAt.plain_unique d m v as bs (plain_of_mem pl (List.mem_of_getElem? ed)) rd r
  subst em
  exact ⟨_, H, J, rx, q _ hd⟩
theorem call_minD (hc : X.calm = true) (hu : X.A.units + 64 < cLine) : CallR X (.builtin "min") (rMinD X.K PySem.W.minD) := by
  intro pins s σ H xs us Q I r ⟨a, d, ds, R, e, sb, ⟨vs, hs, ha⟩, al, pl, dep, q⟩
  subst e
  obtain ⟨its, rv, hl, hz⟩ := I.list hs
  rw [Vals.ref1 r]
  obtain ⟨as, ra⟩ := Dp.readsAll I (d :: ds) vs its (dpAll_mono sb _ _ ha) rv
  exact PySem.W.min_list_data (I.ok.hd hc) hl.isList ra al (by omega) fun i v h' tk bs hv r hk => best_back I sb ha rv pl hv r hk q
theorem call_maxD (hc : X.calm = true) (hu : X.A.units + 64 < cLine) : CallR X (.builtin "max") (rMinD X.K PySem.W.maxD) := by
  intro pins s σ H xs us Q I r ⟨a, d, ds, R, e, sb, ⟨vs, hs, ha⟩, al, pl, dep, q⟩
  subst e
  obtain ⟨its, rv, hl, hz⟩ := I.list hs
  rw [Vals.ref1 r]
  obtain ⟨as, ra⟩ := Dp.readsAll I (d :: ds) vs its (dpAll_mono sb _ _ ha) rv
  exact PySem.W.max_list_data (I.ok.hd hc) hl.isList ra al (by omega) fun i v h' tk bs hv r hk => best_back I sb ha rv pl hv r hk q
def bestD (g : PyData → List PyData → PyData) : PyData → PyData
  | .list (d :: ds) => g d ds
  | _ => .none
def nBest : PyData → Prop
  | .list (d :: ds) => PySem.W.AlikeAll (d :: ds) ∧ PyData.plainAll (d :: ds) = true ∧ PyData.depthAll (d :: ds) ≤ 50
  | _ => False
theorem con_best {g : PyData → List PyData → PyData} : ConC K (rMinD K g) (f1 fun d => .sh (bestD g d)) (n1 nBest) := by
  refine conC1 (f := fun d => .sh (bestD g d)) fun x d R H Q s hx hn k => ?_
  match d, hn with
  | .list (d :: ds), hn =>
    obtain ⟨a, vs, rfl, hs, ha⟩ := hx.2
    exact ⟨a, d, ds, R, rfl, s, ⟨vs, hs, ha⟩, hn.1, hn.2.1, hn.2.2, fun v hv => k v R H [] (.refl s) (.sh hv)⟩
/-! ### repr of a list, a tuple -/
@[simp] def isDisp : PyData → Prop
  | .list _ => True
  | .tuple _ => True
  | _ => False
def rReprD (K : PySem.W.Frag) : List V → Hp → VK → Prop := fun xs H Q => ∃ a d, xs = [.ref a] ∧ Dp K H (.ref a) d ∧ d.showable = true ∧ d.plain = true ∧ d.depth ≤ 50 ∧ d.shown.length ≤ sizeLine ∧ Q (.str d.shown) H
mutual
theorem plain_noDict : ∀ d : PyData, d.plain = true → d.hasDict = false
  | .none, _ => rfl
  | .bool _, _ => rfl
  | .int _, _ => rfl
  | .str _, _ => rfl
  | .list xs, h => by rw [PyData.hasDict]; exact plainAll_noDict xs (by rw [PyData.plain] at h; exact h)
  | .tuple xs, h => by rw [PyData.hasDict]; exact plainAll_noDict xs (by rw [PyData.plain] at h; exact h)
  | .dict _, h => by simp [PyData.plain] at h
theorem plainAll_noDict : ∀ ds : List PyData, PyData.plainAll ds = true → PyData.hasDictAll ds = false
  | [], _ => rfl
  | d :: ds, h => by
    rw [PyData.plainAll, Bool.and_eq_true] at h
    rw [PyData.hasDictAll, plain_noDict d h.1, plainAll_noDict ds h.2]; rfl
end
theorem call_reprD (hg : X.A.guards = some []) (hu : X.A.units + 64 < cLine) : CallR X (.builtin "repr") (rReprD X.K) := by
  intro pins s σ H xs us Q I r ⟨a, d, e, hd, sh, pl, dep, sz, q⟩
  subst e
  rw [Vals.ref1 r]
  obtain ⟨as, rd⟩ := Dp.reads I d (.ref a) (.ref a) hd rfl
  have nd := plain_noDict d pl
  exact repr_of_reads' rd sh (fun z => by rw [nd] at z; cases z) hg (by omega) (fun _ _ z => z) (fun h' u tk hk => ⟨.str _, H, I.kept hk, ⟨u, rfl⟩, q⟩) sz
@[simp] def nRepr (d : PyData) : Prop := isDisp d ∧ d.showable = true ∧ d.plain = true ∧ d.depth ≤ 50 ∧ d.shown.length ≤ sizeLine
theorem con_repr : ConC K (rReprD K) (f1 fun d => .sh (.str d.shown)) (n1 nRepr) := by
  refine conC1 (f := fun d => .sh (.str d.shown)) fun x d R H Q s hx hn k => ?_
  have q := k (.str d.shown) R H [] (.refl s) (.sh (.str _))
  have ex : ∃ a, x = .ref a := by
    cases hx.1 with
    | lst => exact ⟨_, rfl⟩
    | tup => exact ⟨_, rfl⟩
    | _ => exact hn.1.elim
  obtain ⟨a, rfl⟩ := ex
  exact ⟨a, d, rfl, hx.1, hn.2.1, hn.2.2.1, hn.2.2.2.1, hn.2.2.2.2, q⟩
/-! ### join -/
@[simp] def asS : PyData → Str
  | .str z => z
  | _ => Str.empty
@[simp] def isS : PyData → Prop
  | .str _ => True
  | _ => False
@[simp] def asSs : PyData → List Str
  | .list ds => ds.map asS
  | .tuple ds => ds.map asS
  | _ => []
@[simp] def nJoin (d e : PyData) : Prop := isS d ∧ isSq e ∧ (∀ x ∈ seqOf e, isS x) ∧ ((asSs e).map (·.length)).sum + (asSs e).length * (asS d).length ≤ 16777216
theorem dpAll_strs {R : Hp} {xs : List V} {ds : List PyData} (h : DpAll K R xs ds) (hb : ∀ d ∈ ds, isS d) : xs = (ds.map asS).map V.str := by
  induction ds generalizing xs with
  | nil => cases h; rfl
  | cons d ds ih =>
    cases h with
    | cons h1 h2 =>
      rw [List.map_cons, List.map_cons, ← ih h2 fun e he => hb e (List.mem_cons_of_mem _ he)]
      have q := hb d List.mem_cons_self
      cases d with
      | str i => rw [dp_str h1]; rfl
      | _ => exact q.elim
def rJoin1 (K : PySem.W.Frag) : V → List V → Hp → VK → Prop := fun x xs H Q => ∃ a p, ∃ ys : List Str, x = .str a ∧ xs = [.ref p] ∧ (SqL K H p (ys.map V.str) ∨ SqT K H p (ys.map V.str)) ∧
  (ys.map (·.length)).sum + ys.length * a.length ≤ 16777216 ∧ Q (.str (Txt.join a ys)) H
theorem con_join : Con2 K (fun x y H Q => rJoin1 K x [y] H Q) (fun d e => .sh (.str (Txt.join (asS d) (asSs e)))) nJoin := by
  intro x y d e R H Q s hx hy ⟨h1, h2, h3, h4⟩ k
  have q := k (.str (Txt.join (asS d) (asSs e))) R H [] (.refl s) (.sh (.str _))
  cases d with
  | str z =>
    cases e with
    | list xs =>
      obtain ⟨a, vs, rfl, hs, ha⟩ := hy.2
      rw [dpAll_strs ha h3] at hs
      exact ⟨z, a, xs.map asS, dp_str hx.1, rfl, .inl hs, h4, q⟩
    | tuple xs =>
      obtain ⟨a, vs, rfl, hs, ha⟩ := hy.2
      rw [dpAll_strs ha h3] at hs
      exact ⟨z, a, xs.map asS, dp_str hx.1, rfl, .inr hs, h4, q⟩
    | _ => exact h2.elim
  | _ => exact h1.elim
variable {va vb : Env → W} {na nb : Env → Prop}
theorem two_m1 {r : V → List V → Hp → VK → Prop} {f : PyData → PyData → O} {n : PyData → PyData → Prop} (C : Con2 X.K (fun x y H Q => r x [y] H Q) f n) (hs : ∀ d e, n d e → isS d) (σ : L2.St) (H : Hp) (Q : VK)
    (h : PVt X.K (pv2 f va vb) (pn2 n va vb na nb) σ H Q) : tM1 r (PVt X.K va na) (PVt X.K vb nb) σ H Q := by
  obtain ⟨R, ρ, fps, g, ⟨h1, h2, h3, h4, h5⟩, k⟩ := h
  refine ⟨R, ρ, fps, g, h1, fun x R1 H1 fx p1 rx => ⟨?_, R1, ρ, fps, g.step p1, h2, fun y R2 H2 fy p2 ry => ?_⟩⟩
  · have q := hs _ _ h5
    have hd := rx.dp (g.step p1)
    cases e : view ρ (va ρ) with
    | str z => rw [e] at hd; exact ⟨z, dp_str hd⟩
    | _ => rw [e] at q; exact q.elim
  · have p := p1.trans p2
    have rx' := rx.keep p2
    have dj : ∀ a ∈ fx, a ∉ fy := fun a h1 h2 => rx.on a h1 (ry.fresh a h2)
    have q1 := share_step p rx'
    have ry' : RW X.K (share R2 H2 fx) H2 H σ ρ (vb ρ) y fy := (ry.older p1.h).moved (share_mono p.sub) fun a ha => by
      rw [share_out (fun hx => dj a hx ha)]; exact ry.off a ha
    have q2 := share_step q1 ry'
    refine C x y _ _ _ H2 Q q2.sub ((rx'.opd g p h3).mono (share_mono q1.sub (fv := fy)) (Same.refl _)) (ry'.opd g q1 h4) h5 fun v R' H' fv p' ro => ?_
    exact k v R' H' fv (q2.trans p') (ro.older p.h).rw
theorem pv_join {o e : Expr} {apos pos : Pos} (ho : PV X o va na) (he : PV X e vb nb) (hs : starEach [e] X.env = [(false, eval e X.env)] := by rfl) (hbase : attributeBase o "join" X.env (eval o X.env) = eval o X.env := by rfl) (hline : (apos.endLine == pos.line) = true := by rfl) :
    PV X (.Call (.Attribute o "join" apos) [e] [] pos) (pv2 (fun d e => .sh (.str (Txt.join (asS d) (asSs e)))) va vb) (pn2 nJoin va vb na nb) :=
  pe_mono (pe_join ho he hs hbase hline) (two_m1 con_join fun _ _ h => h.1)
/-! ### isinstance -/
@[simp] def isT (T : String) : PyData → Bool
  | .bool _ => T = "bool" || T = "int"
  | .int _ => T = "int"
  | .str _ => T = "str"
  | .list _ => T = "list"
  | .tuple _ => T = "tuple"
  | .dict _ => T = "dict"
  | .none => false
def rIsi (K : PySem.W.Frag) (T : String) : List V → Hp → VK → Prop := fun xs H Q => ∃ x d, xs = [x, .ty T] ∧ Dp K H x d ∧ Q (.bl (isT T d)) H
theorem call_isiD {T : String} (hT : T = "bool" ∨ T = "int" ∨ T = "str" ∨ T = "list" ∨ T = "tuple" ∨ T = "dict") : CallR X (.builtin "isinstance") (rIsi X.K T) := by
  intro pins s σ H xs us Q I r ⟨x, d, e, hd, q⟩
  subst e
  obtain ⟨u, u2, rfl, rx, ry⟩ := vals2 r
  cases ry
  obtain ⟨as, rd⟩ := Dp.reads I d x u hd rx
  rcases hT with rfl | rfl | rfl | rfl | rfl | rfl
  · exact PySem.W.isinstance_bool_data rd fun tk _ => ⟨.bl _, H, I.tok tk, rfl, by cases d <;> exact q⟩
  · exact PySem.W.isinstance_int_data rd fun tk _ => ⟨.bl _, H, I.tok tk, rfl, by cases d <;> exact q⟩
  · exact PySem.W.isinstance_str_data rd fun tk _ => ⟨.bl _, H, I.tok tk, rfl, by cases d <;> exact q⟩
  · exact PySem.W.isinstance_list_data rd fun tk _ => ⟨.bl _, H, I.tok tk, rfl, by cases d <;> exact q⟩
  · exact PySem.W.isinstance_tuple_data rd fun tk _ => ⟨.bl _, H, I.tok tk, rfl, by cases d <;> exact q⟩
  · exact PySem.W.isinstance_dict_data rd fun tk _ => ⟨.bl _, H, I.tok tk, rfl, by cases d <;> exact q⟩
theorem pv_isi {T : String} {x : Str} {e : Expr} {p p2 pos : Pos} (hT : T = "bool" ∨ T = "int" ∨ T = "str" ∨ T = "list" ∨ T = "tuple" ∨ T = "dict") (hm : X.mg "isinstance" = none) (hmT : X.mg x = none) (ha : PV X e va na) (hvT : bootBuiltins x = some (.type T) := by decide +kernel)
    (hg : Gl X "isinstance" := by rfl) (hgT : Gl X x := by rfl) (hv : bootBuiltins "isinstance" = some (.builtin "isinstance") := by decide +kernel) (hn : x ≠ "__name__" := by decide) (hdb : (x == ("__debug__" : Str)) = false := by decide)
    (hs2 : starEach [.Name x p2] X.env = (false, eval (.Name x p2) X.env) :: starEach [] X.env := by rfl)
    (he : starEach (e :: [.Name x p2]) X.env = (false, eval e X.env) :: starEach [.Name x p2] X.env := by rfl) (hpl : (backTo pos (starEach [.Name x p2] X.env)).any (·.1) = false := by rfl) :
    PV X (.Call (.Name "isinstance" p) [e, .Name x p2] [] pos) (fun ρ => .o (.sh (.bool (isT T (view ρ (va ρ)))))) na := by
  refine pe_mono (pe_callB (call_isiD hT) hg hm hv (pa_cons ha (pa_cons (pe_bltn (v := .ty T) hgT hmT hvT rfl hn hdb) pa_nil hs2) he) (by decide) (by decide) he hpl) fun σ H Q ⟨R, ρ, fps, g, h1, k⟩ => ⟨R, ρ, fps, g, h1, fun x R1 H1 fx p r => ?_⟩
  exact ⟨x, _, rfl, r.dp (g.step p), k _ R1 H1 [] p (.sh (.bl _))⟩
/-! ### great numbers -/
theorem pv_mulW {a b : Expr} {pos : Pos} (ha : PV X a va na) (hb : PV X b vb nb) : PV X (.BinOp a .Mult b pos) (pv2 (fun d e => .sh (dI2 (fun i j => .int (i * j)) d e)) va vb) (pn2 (nI2 CMulW) va vb na nb) := pv_bin (pe_op op_mulW ha hb) con_rI
theorem pv_fdivW {a b : Expr} {pos : Pos} (ha : PV X a va na) (hb : PV X b vb nb) : PV X (.BinOp a .FloorDiv b pos) (pv2 (fun d e => .sh (dI2 (fun i j => .int (i / j)) d e)) va vb) (pn2 (nI2 CDivW) va vb na nb) := pv_bin (pe_op op_fdivW ha hb) con_rI
theorem pv_bits {o : Expr} {apos pos : Pos} (ho : PV X o va na) (hbase : attributeBase o "bit_length" X.env (eval o X.env) = eval o X.env := by rfl) (hline : (apos.endLine == pos.line) = true := by rfl) :
    PV X (.Call (.Attribute o "bit_length" apos) [] [] pos) (fun ρ => .o (.sh (.int (Builtin.Int.intBits (asI (view ρ (va ρ))) : Nat)))) (fun ρ => na ρ ∧ isI (view ρ (va ρ))) := by
  refine pe_mono (pe_bits ho hbase hline) fun σ H Q ⟨R, ρ, fps, g, ⟨h1, h2⟩, k⟩ => ⟨R, ρ, fps, g, h1, fun x R1 H1 fx p r => ?_⟩
  have q := r.dp (g.step p)
  cases e : view ρ (va ρ) with
  | int i =>
    rw [e] at q
    refine ⟨i, dp_int q, ?_⟩
    have k' : Q (V.int (Builtin.Int.intBits (asI (view ρ (va ρ))) : Nat)) H1 := k _ R1 H1 [] p (.sh (.int _))
    rw [e] at k'
    exact k'
  | _ => rw [e] at h2; exact h2.elim
end
end TL
set_option linter.all false
set_option maxRecDepth 100000
set_option maxHeartbeats 1000000
set_option autoImplicit false
namespace TL
open PySem PySem.Spec PyProof.Rows L2
/-! ## expressions that change what is owned -/
structure After (K : PySem.W.Frag) (R H : Hp) (fps : Nat → List Addr) (R' H' : Hp) (σ' : L2.St) (ρ' : Env) (fps' : Nat → List Addr) : Prop where
  g : G K R' H' σ' ρ' fps'
  r : Same R R'
  fr : ∀ a, R' a ≠ none → R a ≠ none ∨ H a = none ∨ ∃ i, a ∈ fps i
  keep : ∀ a o, (∀ i, a ∉ fps i) → H a = some o → H' a = some o
  dom : ∀ a, H' a = none → H a = none
  own : ∀ i a, a ∈ fps' i → (∃ j, a ∈ fps j) ∨ H a = none
section
variable {K : PySem.W.Frag} {R H R' H' R2 H2 : Hp} {σ σ' σ2 : L2.St} {ρ ρ' ρ2 : Env} {fps fps' fps2 : Nat → List Addr}
theorem After.refl (g : G K R H σ ρ fps) : After K R H fps R H σ ρ fps := ⟨g, Same.refl _, fun _ h => .inl h, fun _ _ _ h => h, fun _ h => h, fun i _ h => .inl ⟨i, h⟩⟩
theorem After.pure (g : G K R H σ ρ fps) (p : PStep R H R' H') : After K R H fps R' H' σ ρ fps :=
  ⟨g.step p, p.r, fun a h => (p.fr a h).elim .inl fun z => .inr (.inl z), fun a o _ h => p.h a o h, fun a h => p.h.free h, fun i _ h => .inl ⟨i, h⟩⟩
theorem After.trans (a : After K R H fps R' H' σ' ρ' fps') (b : After K R' H' fps' R2 H2 σ2 ρ2 fps2) : After K R H fps R2 H2 σ2 ρ2 fps2 where
  g := b.g
  r := a.r.trans b.r
  fr := fun c h => by
    rcases b.fr c h with h | h | ⟨i, h⟩
    · exact a.fr c h
    · exact .inr (.inl (a.dom c h))
    · rcases a.own i c h with z | z
      · exact .inr (.inr z)
      · exact .inr (.inl z)
  keep := fun c o hn h => b.keep c o (fun i hi => by
    rcases a.own i c hi with ⟨j, z⟩ | z
    · exact hn j z
    · rw [h] at z; cases z) (a.keep c o hn h)
  dom := fun c h => a.dom c (b.dom c h)
  own := fun i c h => by
    rcases b.own i c h with ⟨j, z⟩ | z
    · exact a.own j c z
    · exact .inr (a.dom c z)
/-- what such an expression gives -/
def RX (K : PySem.W.Frag) (R' H' H : Hp) (fps fps' : Nat → List Addr) (σ : L2.St) (ρ' : Env) : W → V → List Addr → Prop
  | .o x, v, fv => Rep K R' H' x v fv ∧ fv.Nodup ∧ ∀ a ∈ fv, R' a = none ∧ (∀ i, a ∉ fps' i) ∧ ((∃ j, a ∈ fps j) ∨ H a = none)
  | .al i, v, fv => σ[i]? = some (some v) ∧ (∃ x, ρ'[i]? = some (some x)) ∧ fv = []
theorem RW.rx {w : W} {v : V} {fv : List Addr} (g : G K R H σ ρ fps) (r : RW K R' H' H σ ρ w v fv) : RX K R' H' H fps fps σ ρ w v fv := by
  cases w with
  | o x => exact ⟨r.1, r.2.1, fun a ha => ⟨(r.2.2 a ha).2, fun i hi => g.on i a hi (r.2.2 a ha).1, .inr (r.2.2 a ha).1⟩⟩
  | al i => exact r
/-- the heap without some addresses -/
def less (H : Hp) (fv : List Addr) : Hp := fun a => if a ∈ fv then none else H a
theorem less_in {H : Hp} {fv : List Addr} {a : Addr} (h : a ∈ fv) : less H fv a = none := if_pos h
theorem less_out {H : Hp} {fv : List Addr} {a : Addr} (h : a ∉ fv) : less H fv a = H a := if_neg h
theorem less_sub {H : Hp} {fv : List Addr} : Same (less H fv) H := fun a o e => by
  by_cases h : a ∈ fv
  · rw [less_in h] at e; cases e
  · rw [less_out h] at e; exact e
/-- seen from a heap without what it owns it is a pure result -/
theorem RX.rw {w : W} {v : V} {fv : List Addr} (g : G K R' H' σ ρ' fps') (r : RX K R' H' H fps fps' σ ρ' w v fv) :
    G K R' (less H' fv) σ ρ' fps' ∧ PStep R' (less H' fv) R' H' ∧ RW K R' H' (less H' fv) σ ρ' w v fv := by
  have offs : ∀ a ∈ fv, R' a = none ∧ ∀ i, a ∉ fps' i := by
    cases w with
    | o x => exact fun a ha => ⟨(r.2.2 a ha).1, (r.2.2 a ha).2.1⟩
    | al i => intro a ha; rw [r.2.2] at ha; cases ha
  have sb : Same R' (less H' fv) := fun a o e => by
    by_cases h : a ∈ fv
    · rw [(offs a h).1] at e; cases e
    · rw [less_out h]; exact g.sub a o e
  have out : ∀ i a, a ∈ fps' i → a ∉ fv := fun i a hi hv => (offs a hv).2 i hi
  refine ⟨⟨sb, fun i x e => ?_, g.nd, g.dj, g.off, fun i a h => by rw [less_out (out i a h)]; exact g.on i a h, g.len⟩, ⟨less_sub, Same.refl _, fun _ h => .inl h, g.sub⟩, ?_⟩
  · obtain ⟨u, e1, q⟩ := g.rep i x e
    exact ⟨u, e1, rep_mono (Same.refl _) x u _ q fun a o ha h => by rw [less_out (out i a ha)]; exact h⟩
  · cases w with
    | o x => exact ⟨r.1, r.2.1, fun a ha => ⟨less_in ha, (offs a ha).1⟩⟩
    | al i => exact r
@[simp] def isO : W → Prop
  | .o _ => True
  | .al _ => False
/-- it stays through what comes next -/
theorem RX.keep {w : W} {v : V} {fv : List Addr} (ho : isO w) (a : After K R H fps R' H' σ ρ' fps') (r : RX K R' H' H fps fps' σ ρ' w v fv) (b : After K R' H' fps' R2 H2 σ2 ρ2 fps2) : RX K R2 H2 H fps fps2 σ2 ρ2 w v fv := by
  cases w with
  | al i => exact ho.elim
  | o x =>
    obtain ⟨h1, h2, h3⟩ := r
    have on := rep_on x v fv h1
    refine ⟨rep_mono b.r x v fv h1 fun c o hc e => b.keep c o (h3 c hc).2.1 e, h2, fun c hc => ⟨?_, fun i hi => ?_, (h3 c hc).2.2⟩⟩
    · cases q : R2 c with
      | none => rfl
      | some o =>
        rcases b.fr c (by rw [q]; simp) with z | z | ⟨i, z⟩
        · exact absurd (h3 c hc).1 z
        · exact absurd z (on c hc)
        · exact absurd z ((h3 c hc).2.1 i)
    · rcases b.own i c hi with ⟨j, z⟩ | z
      · exact (h3 c hc).2.1 j z
      · exact on c hc z
/-- seen from an earlier state -/
theorem RX.older {w : W} {v : V} {fv : List Addr} (a : After K R H fps R' H' σ ρ' fps') (r : RX K R2 H2 H' fps' fps2 σ2 ρ2 w v fv) : RX K R2 H2 H fps fps2 σ2 ρ2 w v fv := by
  cases w with
  | al i => exact r
  | o x =>
    refine ⟨r.1, r.2.1, fun c hc => ⟨(r.2.2 c hc).1, (r.2.2 c hc).2.1, ?_⟩⟩
    rcases (r.2.2 c hc).2.2 with ⟨j, z⟩ | z
    · exact a.own j c z
    · exact .inr (a.dom c z)
/-- a pure step behind it -/
theorem RO.rx {o : O} {v : V} {fv : List Addr} (a : After K R H fps R' H' σ ρ' fps') (p : PStep R' H' R2 H2) (r : RO K R2 H2 H' o v fv) : RX K R2 H2 H fps fps' σ ρ' (.o o) v fv :=
  ⟨r.1, r.2.1, fun c hc => ⟨(r.2.2 c hc).2, fun i hi => a.g.on i c hi (r.2.2 c hc).1, .inr (a.dom c (r.2.2 c hc).1)⟩⟩
theorem After.then (a : After K R H fps R' H' σ ρ' fps') (p : PStep R' H' R2 H2) : After K R H fps R2 H2 σ ρ' fps' := a.trans (After.pure a.g p)
/-- a step of sharing from the smaller heap is one from the whole -/
theorem less_step {fv : List Addr} (p : PStep R' (less H' fv) R2 H') (hf : ∀ a, R2 a ≠ none → R' a ≠ none ∨ a ∈ fv) (hr : ∀ a ∈ fv, H a = none ∨ ∃ j, a ∈ fps j) (hn : ∀ i, ∀ a ∈ fv, a ∉ fps' i) (a : After K R H fps R' H' σ ρ' fps') : After K R H fps R2 H' σ ρ' fps' where
  g := by
    refine ⟨p.sub, fun i x e => ?_, a.g.nd, a.g.dj, fun i c h => ?_, a.g.on, a.g.len⟩
    · obtain ⟨u, e1, q⟩ := a.g.rep i x e
      exact ⟨u, e1, rep_mono p.r x u _ q fun _ _ _ h => h⟩
    · cases q : R2 c with
      | none => rfl
      | some o =>
        rcases hf c (by rw [q]; simp) with z | z
        · exact absurd (a.g.off i c h) z
        · exact absurd h (hn i c z)
  r := a.r.trans p.r
  fr := fun c h => by
    rcases hf c h with z | z
    · exact a.fr c z
    · exact .inr (hr c z)
  keep := a.keep
  dom := a.dom
  own := a.own
theorem share_or {fv : List Addr} (a : Addr) (h : share R' H' fv a ≠ none) : R' a ≠ none ∨ a ∈ fv := by
  by_cases ha : a ∈ fv
  · exact .inr ha
  · rw [share_out ha] at h; exact .inl h
theorem RX.src {w : W} {v : V} {fv : List Addr} (r : RX K R' H' H fps fps' σ ρ' w v fv) : ∀ a ∈ fv, R' a = none ∧ (∀ i, a ∉ fps' i) ∧ (H a = none ∨ ∃ j, a ∈ fps j) := by
  cases w with
  | o x => exact fun a ha => ⟨(r.2.2 a ha).1, (r.2.2 a ha).2.1, (r.2.2 a ha).2.2.symm⟩
  | al i => intro a ha; rw [r.2.2] at ha; cases ha
/-- it is made an operand -/
theorem RX.opd {w : W} {v : V} {fv : List Addr} (a : After K R H fps R' H' σ ρ' fps') (r : RX K R' H' H fps fps' σ ρ' w v fv) (ok : okEl ρ' w) :
    After K R H fps (share R' H' fv) H' σ ρ' fps' ∧ Opd K (share R' H' fv) H' v (view ρ' w) := by
  obtain ⟨g0, p0, r0⟩ := r.rw a.g
  have p1 : PStep R' (less H' fv) (share R' H' fv) H' := share_step p0 r0
  exact ⟨less_step p1 share_or (fun c hc => (r.src c hc).2.2) (fun i c hc => (r.src c hc).2.1 i) a, r0.opd g0 p0 ok⟩
theorem RX.frozen {w : W} {v : V} {fv : List Addr} (a : After K R H fps R' H' σ ρ' fps') (r : RX K R' H' H fps fps' σ ρ' w v fv) (ok : canSh ρ' w) :
    After K R H fps (share R' H' fv) H' σ ρ' fps' ∧ Dp K (share R' H' fv) v (view ρ' w) := by
  obtain ⟨g0, p0, r0⟩ := r.rw a.g
  obtain ⟨p1, q⟩ := r0.freeze (g0.step p0) p0 ok
  exact ⟨less_step p1 share_or (fun c hc => (r.src c hc).2.2) (fun i c hc => (r.src c hc).2.1 i) a, q⟩
theorem RX.moved {w : W} {v : V} {fv : List Addr} (r : RX K R' H' H fps fps' σ ρ' w v fv) (m : Same R' R2) (n : ∀ a ∈ fv, R2 a = none) : RX K R2 H' H fps fps' σ ρ' w v fv := by
  cases w with
  | o x => exact ⟨rep_mono m x v fv r.1 fun a o _ q => q, r.2.1, fun a ha => ⟨n a ha, (r.2.2 a ha).2⟩⟩
  | al i => exact r
end
structure Out where
  w : W
  env : Env
  need : Prop
def XVt (K : PySem.W.Frag) (den : Env → Out) : TE := fun σ H Q => ∃ R ρ fps, G K R H σ ρ fps ∧ (den ρ).need ∧ ∀ v R' H' fps' fv, After K R H fps R' H' σ (den ρ).env fps' → RX K R' H' H fps fps' σ (den ρ).env (den ρ).w v fv → Q v H'
abbrev XV (X : Cx) (e : Expr) (den : Env → Out) : Prop := PE X e (XVt X.K den)
def RXs (K : PySem.W.Frag) (R' H' H : Hp) (fps fps' : Nat → List Addr) (σ : L2.St) (ρ' : Env) : List W → List V → List Addr → Prop
  | [], vs, fv => vs = [] ∧ fv = []
  | w :: ws, vs, fv => ∃ v r f1 f2, vs = v :: r ∧ RX K R' H' H fps fps' σ ρ' w v f1 ∧ RXs K R' H' H fps fps' σ ρ' ws r f2 ∧ fv = f1 ++ f2 ∧ ∀ a ∈ f1, a ∉ f2
structure Outs where
  ws : List W
  env : Env
  need : Prop
def XAt (K : PySem.W.Frag) (den : Env → Outs) : TA := fun σ H Q => ∃ R ρ fps, G K R H σ ρ fps ∧ (den ρ).need ∧ ∀ vs R' H' fps' fv, After K R H fps R' H' σ (den ρ).env fps' → RXs K R' H' H fps fps' σ (den ρ).env (den ρ).ws vs fv → Q vs H'
abbrev XA (X : Cx) (es : List Expr) (den : Env → Outs) : Prop := PA X es (XAt X.K den)
@[simp ↓] def dPure (va : Env → W) (na : Env → Prop) : Env → Out := fun ρ => ⟨va ρ, ρ, na ρ⟩
section
variable {X : Cx} {va vb : Env → W} {na nb : Env → Prop} {da db : Env → Out}
theorem xv_pure {e : Expr} (h : PV X e va na) : XV X e (dPure va na) := pe_mono h fun σ H Q ⟨R, ρ, fps, g, hn, k⟩ => ⟨R, ρ, fps, g, hn, fun v R' H' fv p r => k v R' H' fps fv (.pure g p) (r.rx g)⟩
section
variable {K : PySem.W.Frag} {R H R' H' R2 H2 : Hp} {σ σ' σ2 : L2.St} {ρ ρ' ρ2 : Env} {fps fps' fps2 : Nat → List Addr}
theorem RXs.older (a : After K R H fps R' H' σ ρ' fps') : ∀ {ws : List W} {vs : List V} {fv : List Addr}, RXs K R2 H2 H' fps' fps2 σ2 ρ2 ws vs fv → RXs K R2 H2 H fps fps2 σ2 ρ2 ws vs fv
  | [], _, _, h => h
  | w :: ws, _, _, h => by
    obtain ⟨v, r, f1, f2, e, h1, h2, e2, d⟩ := h
    exact ⟨v, r, f1, f2, e, h1.older a, RXs.older a h2, e2, d⟩
theorem RXs.src : ∀ {ws : List W} {vs : List V} {fv : List Addr}, RXs K R' H' H fps fps' σ ρ' ws vs fv → ∀ a ∈ fv, R' a = none ∧ (∀ i, a ∉ fps' i) ∧ (H a = none ∨ ∃ j, a ∈ fps j)
  | [], _, _, h, a, ha => by rw [h.2] at ha; cases ha
  | w :: ws, _, _, h, a, ha => by
    obtain ⟨v, r, f1, f2, e, h1, h2, rfl, d⟩ := h
    rcases List.mem_append.mp ha with ha | ha
    · exact h1.src a ha
    · exact RXs.src h2 a ha
theorem RXs.moved (m : Same R' R2) : ∀ {ws : List W} {vs : List V} {fv : List Addr}, RXs K R' H' H fps fps' σ ρ' ws vs fv → (∀ a ∈ fv, R2 a = none) → RXs K R2 H' H fps fps' σ ρ' ws vs fv
  | [], _, _, h, n => h
  | w :: ws, _, _, h, n => by
    obtain ⟨v, r, f1, f2, e, h1, h2, rfl, d⟩ := h
    exact ⟨v, r, f1, f2, e, h1.moved m fun a ha => n a (List.mem_append_left _ ha), RXs.moved m h2 fun a ha => n a (List.mem_append_right _ ha), rfl, d⟩
theorem RXs.opds : ∀ {ws : List W} {vs : List V} {fv : List Addr} {R' : Hp}, After K R H fps R' H' σ ρ' fps' → RXs K R' H' H fps fps' σ ρ' ws vs fv → (∀ w ∈ ws, okEl ρ' w) →
    ∃ R2, After K R H fps R2 H' σ ρ' fps' ∧ Same R' R2 ∧ Opds K R2 H' vs (ws.map (view ρ'))
  | [], _, _, R', a, h, _ => by rw [h.1]; exact ⟨R', a, Same.refl _, .nil⟩
  | w :: ws, _, _, R', a, h, ok => by
    obtain ⟨v, r, f1, f2, rfl, h1, h2, rfl, d⟩ := h
    obtain ⟨a1, o1⟩ := h1.opd a (ok w List.mem_cons_self)
    have h2' := h2.moved (share_mono a.g.sub (fv := f1)) fun c hc => by
      rw [share_out (fun hx => d c hx hc)]; exact (h2.src c hc).1
    obtain ⟨R2, a2, s2, o2⟩ := RXs.opds a1 h2' fun w' hw => ok w' (List.mem_cons_of_mem _ hw)
    exact ⟨R2, a2, (share_mono a.g.sub).trans s2, .cons (o1.mono s2 (Same.refl _)) o2⟩
theorem RXs.frozen : ∀ {ws : List W} {vs : List V} {fv : List Addr} {R' : Hp}, After K R H fps R' H' σ ρ' fps' → RXs K R' H' H fps fps' σ ρ' ws vs fv → canShs ρ' ws →
    ∃ R2, After K R H fps R2 H' σ ρ' fps' ∧ Same R' R2 ∧ DpAll K R2 vs (ws.map (view ρ'))
  | [], _, _, R', a, h, _ => by rw [h.1]; exact ⟨R', a, Same.refl _, .nil⟩
  | w :: ws, _, _, R', a, h, ok => by
    obtain ⟨v, r, f1, f2, rfl, h1, h2, rfl, d⟩ := h
    obtain ⟨a1, o1⟩ := h1.frozen a (ok w List.mem_cons_self)
    have h2' := h2.moved (share_mono a.g.sub (fv := f1)) fun c hc => by
      rw [share_out (fun hx => d c hx hc)]; exact (h2.src c hc).1
    obtain ⟨R2, a2, s2, o2⟩ := RXs.frozen a1 h2' fun w' hw => ok w' (List.mem_cons_of_mem _ hw)
    exact ⟨R2, a2, (share_mono a.g.sub).trans s2, .cons (dp_mono s2 _ _ o1) o2⟩
end
theorem xa_nil : XA X [] (fun ρ => ⟨[], ρ, True⟩) := pa_mono pa_nil fun σ H Q ⟨R, ρ, fps, g, _, k⟩ => k [] R H fps [] (.refl g) ⟨rfl, rfl⟩
theorem xa_cons {e : Expr} {es : List Expr} {dl : Env → Outs} (ha : XV X e da) (hr : XA X es dl) (hs : starEach (e :: es) X.env = (false, eval e X.env) :: starEach es X.env := by rfl) :
    XA X (e :: es) (fun ρ => ⟨(da ρ).w :: (dl (da ρ).env).ws, (dl (da ρ).env).env, (da ρ).need ∧ isO (da ρ).w ∧ (dl (da ρ).env).need⟩) := by
  refine pa_mono (pa_cons ha hr hs) fun σ H Q ⟨R, ρ, fps, g, ⟨h1, h2, h3⟩, k⟩ => ?_
  refine ⟨R, ρ, fps, g, h1, fun x R1 H1 fps1 fx a1 r1 => ⟨R1, (da ρ).env, fps1, a1.g, h3, fun vs R2 H2 fps2 fv a2 r2 => ?_⟩⟩
  have r1' := r1.keep h2 a1 a2
  refine k (x :: vs) R2 H2 fps2 (fx ++ fv) (a1.trans a2) ⟨x, vs, fx, fv, rfl, r1', r2.older a1, rfl, fun c hc hv => ?_⟩
  rcases (r2.src c hv).2.2 with z | ⟨j, z⟩
  · cases e : (da ρ).w with
    | o y => rw [e] at r1; exact rep_on y x fx r1.1 c hc z
    | al i => rw [e] at h2; exact h2.elim
  · exact (r1.src c hc).2.1 j z
/-- the last argument may be a name that owns -/
theorem xa_one {e : Expr} (ha : XV X e da) (hs : starEach [e] X.env = (false, eval e X.env) :: starEach [] X.env := by rfl) : XA X [e] (fun ρ => ⟨[(da ρ).w], (da ρ).env, (da ρ).need⟩) := by
  refine pa_mono (pa_cons ha pa_nil hs) fun σ H Q ⟨R, ρ, fps, g, h1, k⟩ => ⟨R, ρ, fps, g, h1, fun x R1 H1 fps1 fx a1 r1 => ?_⟩
  exact k [x] R1 H1 fps1 (fx ++ []) a1 ⟨x, [], fx, [], rfl, r1, ⟨rfl, rfl⟩, rfl, fun _ _ h => nomatch h⟩
theorem xargsC {dl : Env → Outs} {r : List V → Hp → VK → Prop} {f : List PyData → O} {n : List PyData → Prop} (C : ConC X.K r f n) (σ : L2.St) (H : Hp) (Q : VK)
    (h : XVt X.K (fun ρ => ⟨.o (f ((dl ρ).ws.map (view (dl ρ).env))), (dl ρ).env, (dl ρ).need ∧ (∀ w ∈ (dl ρ).ws, okEl (dl ρ).env w) ∧ n ((dl ρ).ws.map (view (dl ρ).env))⟩) σ H Q) : tCB r (XAt X.K dl) σ H Q := by
  obtain ⟨R, ρ, fps, g, ⟨h1, h2, h3⟩, k⟩ := h
  refine ⟨R, ρ, fps, g, h1, fun vs R1 H1 fps1 fv a r => ?_⟩
  obtain ⟨R2, a2, _, o⟩ := r.opds a h2
  exact C vs _ R2 H1 Q a2.g.sub o h3 fun v R' H' fv p ro => k v R' H' fps1 fv (a2.then p) (ro.rx a2 p)
@[simp ↓] abbrev dC (f : List PyData → O) (n : List PyData → Prop) (dl : Env → Outs) : Env → Out :=
  fun ρ => ⟨.o (f ((dl ρ).ws.map (view (dl ρ).env))), (dl ρ).env, (dl ρ).need ∧ (∀ w ∈ (dl ρ).ws, okEl (dl ρ).env w) ∧ n ((dl ρ).ws.map (view (dl ρ).env))⟩
theorem xv_callB {id : String} {x : Str} {r : List V → Hp → VK → Prop} {f : List PyData → O} {n : List PyData → Prop} {e : Expr} {es : List Expr} {dl : Env → Outs} {p pos : Pos} (hc : CallR X (.builtin id) r) (C : ConC X.K r f n) (hm : X.mg x = none) (ha : XA X (e :: es) dl)
    (hg : Gl X x := by rfl) (hv : bootBuiltins x = some (.builtin id) := by decide +kernel) (hn : x ≠ "__name__" := by decide) (hdb : (x == ("__debug__" : Str)) = false := by decide)
    (he : starEach (e :: es) X.env = (false, eval e X.env) :: starEach es X.env := by rfl) (hpl : (backTo pos (starEach es X.env)).any (·.1) = false := by rfl) : XV X (.Call (.Name x p) (e :: es) [] pos) (dC f n dl) :=
  pe_mono (pe_callB hc hg hm hv ha hn hdb he hpl) (xargsC C)
theorem xv_callT {T : String} {x : Str} {r : List V → Hp → VK → Prop} {f : List PyData → O} {n : List PyData → Prop} {e : Expr} {es : List Expr} {dl : Env → Outs} {p pos : Pos} (hc : CallR X (.type T) r) (C : ConC X.K r f n) (hm : X.mg x = none) (ha : XA X (e :: es) dl)
    (hg : Gl X x := by rfl) (hv : bootBuiltins x = some (.type T) := by decide +kernel) (hn : x ≠ "__name__" := by decide) (hdb : (x == ("__debug__" : Str)) = false := by decide)
    (he : starEach (e :: es) X.env = (false, eval e X.env) :: starEach es X.env := by rfl) (hpl : (backTo pos (starEach es X.env)).any (·.1) = false := by rfl) : XV X (.Call (.Name x p) (e :: es) [] pos) (dC f n dl) :=
  pe_mono (pe_callTy hc hg hm hv ha hn hdb he hpl) (xargsC C)
/-- two operands; the first owns or is shared (no name that owns) -/
@[simp ↓] abbrev dB (f : PyData → PyData → O) (n : PyData → PyData → Prop) (da db : Env → Out) : Env → Out :=
  fun ρ => ⟨.o (f (view (db (da ρ).env).env (da ρ).w) (view (db (da ρ).env).env (db (da ρ).env).w)), (db (da ρ).env).env,
    (da ρ).need ∧ isO (da ρ).w ∧ (db (da ρ).env).need ∧ okEl (db (da ρ).env).env (db (da ρ).env).w ∧ n (view (db (da ρ).env).env (da ρ).w) (view (db (da ρ).env).env (db (da ρ).env).w)⟩
theorem xtwo_t {r : R2} {f : PyData → PyData → O} {n : PyData → PyData → Prop} (C : Con2 X.K r f n) (σ : L2.St) (H : Hp) (Q : VK) (h : XVt X.K (dB f n da db) σ H Q) : tOp r (XVt X.K da) (XVt X.K db) σ H Q := by
  obtain ⟨R, ρ, fps, g, ⟨h1, h2, h3, h4, h5⟩, k⟩ := h
  refine ⟨R, ρ, fps, g, h1, fun x R1 H1 fps1 fx a1 r1 => ⟨R1, (da ρ).env, fps1, a1.g, h3, fun y R2 H2 fps2 fy a2 r2 => ?_⟩⟩
  have dj : ∀ c ∈ fx, c ∉ fy := fun c hc hv => by
    rcases (r2.src c hv).2.2 with z | ⟨j, z⟩
    · cases e : (da ρ).w with
      | o y' => rw [e] at r1; exact rep_on y' x fx r1.1 c hc z
      | al i => rw [e] at h2; exact h2.elim
    · exact (r1.src c hc).2.1 j z
  have r1' := r1.keep h2 a1 a2
  have okx : okEl (db (da ρ).env).env (da ρ).w := by
    cases e : (da ρ).w with
    | o y' => trivial
    | al i => rw [e] at h2; exact h2.elim
  obtain ⟨a3, ox⟩ := r1'.opd (a1.trans a2) okx
  have ry : RX X.K (share R2 H2 fx) H2 H fps fps2 σ (db (da ρ).env).env (db (da ρ).env).w y fy := (r2.older a1).moved (share_mono a2.g.sub) fun c hc => by
    rw [share_out (fun hx => dj c hx hc)]; exact (r2.src c hc).1
  obtain ⟨a4, oy⟩ := ry.opd a3 h4
  refine C x y _ _ _ H2 Q a4.g.sub (ox.mono (share_mono a3.g.sub) (Same.refl _)) oy h5 fun v R' H' fv p ro => ?_
  exact k v R' H' fps2 fv (a4.then p) (ro.rx a4 p)
theorem xv_bin {e : Expr} {r : R2} {f : PyData → PyData → O} {n : PyData → PyData → Prop} (h : PE X e (tOp r (XVt X.K da) (XVt X.K db))) (C : Con2 X.K r f n) : XV X e (dB f n da db) := pe_mono h (xtwo_t C)
variable {a b : Expr} {pos : Pos}
theorem xv_add (ha : XV X a da) (hb : XV X b db) : XV X (.BinOp a .Add b pos) (dB dAdd nAdd da db) := xv_bin (pe_op op_plus ha hb) con_plus
theorem xv_sub (ha : XV X a da) (hb : XV X b db) : XV X (.BinOp a .Sub b pos) (dB (fun d e => .sh (dI2 (fun i j => .int (i - j)) d e)) (nI2 fun _ _ => True) da db) := xv_bin (pe_op op_sub ha hb) con_rI0
theorem xv_ix (ha : XV X a da) (hb : XV X b db) (hs : PlainIx b := by exact fun _ _ => rfl) : XV X (.Subscript a b pos) (dB (fun d e => .sh (ixD d e)) nIx da db) := xv_bin (pe_ix ix_seq ha hb hs) con_ix
/-- sep.join(e) -/
theorem xtwo_m1 {r : V → List V → Hp → VK → Prop} {f : PyData → PyData → O} {n : PyData → PyData → Prop} (C : Con2 X.K (fun x y H Q => r x [y] H Q) f n) (hs : ∀ d e, n d e → isS d) (σ : L2.St) (H : Hp) (Q : VK)
    (h : XVt X.K (dB f n (dPure va na) db) σ H Q) (hv : ∀ ρ, ∃ z, va ρ = .o (.sh (.str z))) : tM1 r (PVt X.K va na) (XVt X.K db) σ H Q := by
  obtain ⟨R, ρ, fps, g, ⟨h1, h2, h3, h4, h5⟩, k⟩ := h
  obtain ⟨z, ez⟩ := hv ρ
  refine ⟨R, ρ, fps, g, h1, fun x R1 H1 fx p1 r1 => ?_⟩
  rw [ez] at r1
  have ex : x = .str z := dp_str r1.1.1
  refine ⟨⟨z, ex⟩, R1, ρ, fps, g.step p1, h3, fun y R2 H2 fps2 fy a2 r2 => ?_⟩
  have a1 : After X.K R H fps R1 H1 σ ρ fps := .pure g p1
  obtain ⟨a4, oy⟩ := (r2.older a1).opd (a1.trans a2) h4
  have ev : view (db ρ).env (va ρ) = .str z := by rw [ez]; rfl
  refine C x y (.str z) _ _ H2 Q a4.g.sub (by rw [ex]; exact ⟨.str z, trivial⟩) oy (by rw [← ev]; exact h5) fun v R' H' fv p ro => ?_
  have ro' : RO X.K R' H' H2 (f (view (db ρ).env (va ρ)) (view (db ρ).env (db ρ).w)) v fv := by rw [ev]; exact ro
  exact k v R' H' fps2 fv (a4.then p) (ro'.rx a4 p)
theorem xv_join {z : Str} {j : Nat} {p0 : Pos} {e : Expr} {apos pos : Pos} (he : XV X e db) (hs : starEach [e] X.env = [(false, eval e X.env)] := by rfl) (hbase : attributeBase (.Constant (.str z) j p0) "join" X.env (eval (.Constant (.str z) j p0) X.env) = eval (.Constant (.str z) j p0) X.env := by rfl) (hline : (apos.endLine == pos.line) = true := by rfl) :
    XV X (.Call (.Attribute (.Constant (.str z) j p0) "join" apos) [e] [] pos) (dB (fun d e => .sh (.str (Txt.join (asS d) (asSs e)))) nJoin (dPure (fun _ => .o (.sh (.str z))) fun _ => True) db) :=
  pe_mono (pe_join pv_str he hs hbase hline) fun σ H Q h => xtwo_m1 con_join (fun _ _ h => h.1) σ H Q h fun _ => ⟨z, rfl⟩
/-! ### tests -/
structure OutB where
  b : Bool
  env : Env
  need : Prop
def XTt (K : PySem.W.Frag) (den : Env → OutB) : TT := fun σ H Q => ∃ R ρ fps, G K R H σ ρ fps ∧ (den ρ).need ∧ ∀ R' H' fps', After K R H fps R' H' σ (den ρ).env fps' → Q (den ρ).b H'
abbrev XT (X : Cx) (e : Expr) (den : Env → OutB) : Prop := PT X e (XTt X.K den)
theorem xt_pure {e : Expr} {b : Env → Bool} {n : Env → Prop} (h : PVT X e b n) : XT X e (fun ρ => ⟨b ρ, ρ, n ρ⟩) := pt_mono h fun σ H Q ⟨R, ρ, fps, g, hn, k⟩ => ⟨R, ρ, fps, g, hn, fun R' H' p => k R' H' fps (.pure g p)⟩
theorem RX.dp {K : PySem.W.Frag} {R H R' H' : Hp} {σ : L2.St} {ρ' : Env} {fps fps' : Nat → List Addr} {w : W} {v : V} {fv : List Addr} (a : After K R H fps R' H' σ ρ' fps') (r : RX K R' H' H fps fps' σ ρ' w v fv) : Dp K H' v (view ρ' w) := by
  obtain ⟨g0, p0, r0⟩ := r.rw a.g
  exact r0.dp (g0.step p0)
theorem xt_val {e : Expr} (h : XV X e da) (he : ∀ whole, isTrue e X.env whole = (do let v ← whole; standAt e.pos; holding [v] (truthy v)) := by intro _; rfl) : XT X e (fun ρ => ⟨asB (view (da ρ).env (da ρ).w), (da ρ).env, (da ρ).need ∧ isB (view (da ρ).env (da ρ).w)⟩) := by
  refine pt_mono (pt_val h he) fun σ H Q ⟨R, ρ, fps, g, ⟨h1, h2⟩, k⟩ => ⟨R, ρ, fps, g, h1, fun v R1 H1 fps1 fv a r => ?_⟩
  exact ⟨_, view_bl (r.dp a) h2, k R1 H1 fps1 a⟩
variable {ta tb : Env → OutB}
theorem xt_not (ha : XT X a ta) : XT X (.UnaryOp .Not a pos) (fun ρ => ⟨!(ta ρ).b, (ta ρ).env, (ta ρ).need⟩) :=
  pt_mono (pt_not ha) fun σ H Q ⟨R, ρ, fps, g, h1, k⟩ => ⟨R, ρ, fps, g, h1, fun R1 H1 fps1 a => k R1 H1 fps1 a⟩
def XWt (X : Cx) (e : Expr) (den : Env → OutB) : Prop := PW X e (XTt X.K den)
theorem xw_and1 (ha : XT X a ta) : XWt X (.BoolOp .And [a] pos) ta := pw_and1 ha
theorem xw_or1 (ha : XT X a ta) : XWt X (.BoolOp .Or [a] pos) ta := pw_or1 ha
theorem xt_w {e : Expr} (h : XWt X e ta) : XT X e ta := PW.pt h
@[simp ↓] abbrev dOr (ta tb : Env → OutB) : Env → OutB := fun ρ => if (ta ρ).b = true then ⟨true, (ta ρ).env, (ta ρ).need⟩ else ⟨(tb (ta ρ).env).b, (tb (ta ρ).env).env, (ta ρ).need ∧ (tb (ta ρ).env).need⟩
@[simp ↓] abbrev dAnd (ta tb : Env → OutB) : Env → OutB := fun ρ => if (ta ρ).b = true then ⟨(tb (ta ρ).env).b, (tb (ta ρ).env).env, (ta ρ).need ∧ (tb (ta ρ).env).need⟩ else ⟨false, (ta ρ).env, (ta ρ).need⟩
theorem xw_or {rest : List Expr} (ha : XT X a ta) (hb : XWt X (.BoolOp .Or (b :: rest) pos) tb) : XWt X (.BoolOp .Or (a :: b :: rest) pos) (dOr ta tb) := by
  refine pw_mono (pw_or ha hb) fun σ H Q ⟨R, ρ, fps, g, h1, k⟩ => ?_
  have e1 : dOr ta tb ρ = if (ta ρ).b = true then ⟨true, (ta ρ).env, (ta ρ).need⟩ else ⟨(tb (ta ρ).env).b, (tb (ta ρ).env).env, (ta ρ).need ∧ (tb (ta ρ).env).need⟩ := rfl
  cases e : (ta ρ).b with
  | true =>
    rw [if_pos e] at e1
    rw [e1] at h1 k
    exact ⟨R, ρ, fps, g, h1, fun R1 H1 fps1 a1 => by rw [e]; exact iteT (k R1 H1 fps1 a1)⟩
  | false =>
    rw [if_neg (by rw [e]; exact Bool.false_ne_true)] at e1
    rw [e1] at h1 k
    exact ⟨R, ρ, fps, g, h1.1, fun R1 H1 fps1 a1 => by rw [e]; exact iteF ⟨R1, (ta ρ).env, fps1, a1.g, h1.2, fun R2 H2 fps2 a2 => k R2 H2 fps2 (a1.trans a2)⟩⟩
theorem xw_and {rest : List Expr} (ha : XT X a ta) (hb : XWt X (.BoolOp .And (b :: rest) pos) tb) : XWt X (.BoolOp .And (a :: b :: rest) pos) (dAnd ta tb) := by
  refine pw_mono (pw_and ha hb) fun σ H Q ⟨R, ρ, fps, g, h1, k⟩ => ?_
  have e1 : dAnd ta tb ρ = if (ta ρ).b = true then ⟨(tb (ta ρ).env).b, (tb (ta ρ).env).env, (ta ρ).need ∧ (tb (ta ρ).env).need⟩ else ⟨false, (ta ρ).env, (ta ρ).need⟩ := rfl
  cases e : (ta ρ).b with
  | false =>
    rw [if_neg (by rw [e]; exact Bool.false_ne_true)] at e1
    rw [e1] at h1 k
    exact ⟨R, ρ, fps, g, h1, fun R1 H1 fps1 a1 => by rw [e]; exact iteF (k R1 H1 fps1 a1)⟩
  | true =>
    rw [if_pos e] at e1
    rw [e1] at h1 k
    exact ⟨R, ρ, fps, g, h1.1, fun R1 H1 fps1 a1 => by rw [e]; exact iteT ⟨R1, (ta ρ).env, fps1, a1.g, h1.2, fun R2 H2 fps2 a2 => k R2 H2 fps2 (a1.trans a2)⟩⟩
end
end TL
set_option linter.all false
set_option maxRecDepth 100000
set_option maxHeartbeats 1000000
set_option autoImplicit false
namespace TL
open PySem PySem.Spec PyProof.Rows L2
/-! ## slots -/
@[simp] def wipeE (ρ : Env) : List Nat → Env
  | [] => ρ
  | v :: vs => (wipeE ρ vs).set v none
theorem wipeE_len (ρ : Env) : ∀ vs, (wipeE ρ vs).length = ρ.length
  | [] => rfl
  | v :: vs => by rw [wipeE, List.length_set, wipeE_len ρ vs]
theorem wipeE_out {ρ : Env} {i : Nat} : ∀ {vs : List Nat}, i ∉ vs → (wipeE ρ vs)[i]? = ρ[i]?
  | [], _ => rfl
  | v :: vs, h => by
    rw [List.mem_cons, not_or] at h
    rw [wipeE, List.getElem?_set_ne (Ne.symm h.1), wipeE_out h.2]
theorem wipeE_in {ρ : Env} {i : Nat} {x : O} : ∀ {vs : List Nat}, i ∈ vs → (wipeE ρ vs)[i]? ≠ some (some x)
  | v :: vs, h => by
    rw [wipeE]
    by_cases e : v = i
    · subst e
      by_cases hl : v < (wipeE ρ vs).length
      · rw [List.getElem?_set_self hl]; simp
      · rw [List.getElem?_eq_none (by simpa using hl)]; simp
    · rw [List.getElem?_set_ne e]
      rcases List.mem_cons.mp h with z | z
      · exact absurd z.symm e
      · exact wipeE_in z
section
variable {K : PySem.W.Frag} {R H R' H' : Hp} {σ : L2.St} {ρ : Env} {fps : Nat → List Addr}
theorem G.wipe (g : G K R H σ ρ fps) (vs : List Nat) : G K R H (L2.wipe σ vs) (wipeE ρ vs) (fun i => if i ∈ vs then [] else fps i) where
  sub := g.sub
  rep := fun i x e => by
    by_cases h : i ∈ vs
    · exact absurd e (wipeE_in h)
    · rw [wipeE_out h] at e
      obtain ⟨v, e1, q⟩ := g.rep i x e
      exact ⟨v, by rw [L2.wipe_out h]; exact e1, by show Rep K R H x v (if i ∈ vs then [] else fps i); rw [if_neg h]; exact q⟩
  nd := fun i => by by_cases h : i ∈ vs <;> simp [h, g.nd i]
  dj := fun i j a ne h => by
    have h' : a ∈ (if i ∈ vs then [] else fps i) := h
    show a ∉ (if j ∈ vs then [] else fps j)
    by_cases hi : i ∈ vs
    · rw [if_pos hi] at h'; cases h'
    · rw [if_neg hi] at h'
      by_cases hj : j ∈ vs
      · rw [if_pos hj]; simp
      · rw [if_neg hj]; exact g.dj i j a ne h'
  off := fun i a h => by
    have h' : a ∈ (if i ∈ vs then [] else fps i) := h
    by_cases hi : i ∈ vs
    · rw [if_pos hi] at h'; cases h'
    · rw [if_neg hi] at h'; exact g.off i a h'
  on := fun i a h => by
    have h' : a ∈ (if i ∈ vs then [] else fps i) := h
    by_cases hi : i ∈ vs
    · rw [if_pos hi] at h'; cases h'
    · rw [if_neg hi] at h'; exact g.on i a h'
  len := by rw [L2.wipe_length, wipeE_len, g.len]
def fset (fps : Nat → List Addr) (i : Nat) (f : List Addr) : Nat → List Addr := fun j => if j = i then f else fps j
theorem fset_same {i : Nat} {f : List Addr} : fset fps i f i = f := if_pos rfl
theorem fset_ne {i j : Nat} {f : List Addr} (h : j ≠ i) : fset fps i f j = fps j := if_neg h
/-- a slot is stored -/
theorem G.set {i : Nat} {x : O} {v : V} {f : List Addr} (g : G K R H σ ρ fps) (hi : i < ρ.length) (r : Rep K R H x v f) (nd : f.Nodup) (off : ∀ a ∈ f, R a = none) (dj : ∀ j, j ≠ i → ∀ a ∈ f, a ∉ fps j) :
    G K R H (σ.set i (some v)) (ρ.set i (some x)) (fset fps i f) where
  sub := g.sub
  rep := fun j y e => by
    by_cases h : j = i
    · subst h
      rw [List.getElem?_set_self hi] at e
      cases e
      exact ⟨v, List.getElem?_set_self (by rw [g.len]; exact hi), by rw [fset_same]; exact r⟩
    · rw [List.getElem?_set_ne (Ne.symm h)] at e
      obtain ⟨u, e1, q⟩ := g.rep j y e
      exact ⟨u, by rw [List.getElem?_set_ne (Ne.symm h)]; exact e1, by rw [fset_ne h]; exact q⟩
  nd := fun j => by
    by_cases h : j = i
    · rw [h, fset_same]; exact nd
    · rw [fset_ne h]; exact g.nd j
  dj := fun j k a ne h => by
    by_cases hj : j = i
    · rw [hj, fset_same] at h
      rw [fset_ne (fun e => ne (by rw [hj, e]))]
      exact dj k (fun e => ne (by rw [hj, e])) a h
    · rw [fset_ne hj] at h
      by_cases hk : k = i
      · rw [hk, fset_same]; exact fun z => dj j hj a z h
      · rw [fset_ne hk]; exact g.dj j k a ne h
  off := fun j a h => by
    by_cases hj : j = i
    · rw [hj, fset_same] at h; exact off a h
    · rw [fset_ne hj] at h; exact g.off j a h
  on := fun j a h => by
    by_cases hj : j = i
    · rw [hj, fset_same] at h; exact rep_on x v f r a h
    · rw [fset_ne hj] at h; exact g.on j a h
  len := by rw [List.length_set, List.length_set, g.len]
theorem G.setSh {i : Nat} {d : PyData} {v : V} (g : G K R H σ ρ fps) (hi : i < ρ.length) (h : Dp K R v d) : G K R H (σ.set i (some v)) (ρ.set i (some (.sh d))) (fset fps i []) :=
  g.set hi ⟨h, rfl⟩ List.nodup_nil (fun _ h => nomatch h) fun _ _ _ h => nomatch h
end
/-! ## targets -/
def TGo (K : PySem.W.Frag) (t : TG) (tg : PyData → Env → Env) (nt : PyData → Prop) (ix : List Nat) : Prop :=
  ∀ (d : PyData) (v : V) (R : Hp) (σ : L2.St) (H : Hp) (ρ : Env) (fps : Nat → List Addr) (Q : L2.St → Hp → Prop), G K R H σ ρ fps → Dp K R v d → nt d → (∀ i ∈ ix, i < ρ.length) →
    (∀ σ' fps', G K R H σ' (tg d ρ) fps' → (∀ i, fps' i = fps i ∨ fps' i = []) → (∀ j, j ∉ ix → σ'[j]? = σ[j]?) → σ'.length = σ.length → Q σ' H) → t v σ H Q
@[simp] def tgN (i : Nat) : PyData → Env → Env := fun d ρ => ρ.set i (some (.sh d))
theorem fset_nil {fps : Nat → List Addr} (i j : Nat) : fset fps i [] j = fps j ∨ fset fps i [] j = [] := by
  by_cases h : j = i
  · right; rw [h, fset_same]
  · left; exact fset_ne h
theorem tgo_name {K : PySem.W.Frag} (i : Nat) : TGo K (gName i) (tgN i) (fun _ => True) [i] := fun d v R σ H ρ fps Q g hd _ hi k =>
  k _ _ (g.setSh (hi i (by simp)) hd) (fun j => fset_nil i j) (fun j hj => List.getElem?_set_ne (by simpa [eq_comm] using hj)) (List.length_set ..)
@[simp] def tgT2 (i j : Nat) : PyData → Env → Env := fun d ρ => match d with
  | .tuple [x, y] => (ρ.set i (some (.sh x))).set j (some (.sh y))
  | _ => ρ
@[simp] def ntT2 : PyData → Prop
  | .tuple [_, _] => True
  | _ => False
theorem fset2_nil {fps : Nat → List Addr} (i i' j : Nat) : fset (fset fps i []) i' [] j = fps j ∨ fset (fset fps i []) i' [] j = [] := by
  by_cases h : j = i'
  · right; rw [h, fset_same]
  · rw [fset_ne h]; exact fset_nil i j
theorem tgo_t2 {K : PySem.W.Frag} (i j : Nat) : TGo K (gTup K 2 (gCons (gName i) (gCons (gName j) gNil))) (tgT2 i j) ntT2 [i, j] := by
  intro d v R σ H ρ fps Q g hd hn hi k
  match d, hn with
  | .tuple [x, y], _ =>
    cases hd with
    | tup hs ha =>
      cases ha with
      | cons h1 ha =>
        cases ha with
        | cons h2 ha =>
          cases ha
          refine ⟨_, _, rfl, same_seqT g.sub hs, rfl, _, _, rfl, _, _, rfl, rfl, ?_⟩
          have g1 := g.setSh (hi i (by simp)) h1
          have g2 := g1.setSh (i := j) (by rw [List.length_set]; exact hi j (by simp)) h2
          refine k _ _ g2 (fun m => fset2_nil i j m) (fun m hm => ?_) (by rw [List.length_set, List.length_set])
          simp only [List.mem_cons, List.not_mem_nil, or_false, not_or] at hm
          rw [List.getElem?_set_ne (Ne.symm hm.2), List.getElem?_set_ne (Ne.symm hm.1)]
@[simp] def tgT3 (i j l : Nat) : PyData → Env → Env := fun d ρ => match d with
  | .tuple [x, y, z] => ((ρ.set i (some (.sh x))).set j (some (.sh y))).set l (some (.sh z))
  | _ => ρ
@[simp] def ntT3 : PyData → Prop
  | .tuple [_, _, _] => True
  | _ => False
theorem tgo_t3 {K : PySem.W.Frag} (i j l : Nat) : TGo K (gTup K 3 (gCons (gName i) (gCons (gName j) (gCons (gName l) gNil)))) (tgT3 i j l) ntT3 [i, j, l] := by
  intro d v R σ H ρ fps Q g hd hn hi k
  match d, hn with
  | .tuple [x, y, z], _ =>
    cases hd with
    | tup hs ha =>
      cases ha with
      | cons h1 ha =>
        cases ha with
        | cons h2 ha =>
          cases ha with
          | cons h3 ha =>
            cases ha
            refine ⟨_, _, rfl, same_seqT g.sub hs, rfl, _, _, rfl, _, _, rfl, _, _, rfl, rfl, ?_⟩
            have g1 := g.setSh (hi i (by simp)) h1
            have g2 := g1.setSh (i := j) (by rw [List.length_set]; exact hi j (by simp)) h2
            have g3 := g2.setSh (i := l) (by rw [List.length_set, List.length_set]; exact hi l (by simp)) h3
            refine k _ _ g3 (fun m => ?_) (fun m hm => ?_) (by rw [List.length_set, List.length_set, List.length_set])
            · by_cases h : m = l
              · right; rw [h, fset_same]
              · rw [fset_ne h]; exact fset2_nil i j m
            · simp only [List.mem_cons, List.not_mem_nil, or_false, not_or] at hm
              rw [List.getElem?_set_ne (Ne.symm hm.2.2), List.getElem?_set_ne (Ne.symm hm.2.1), List.getElem?_set_ne (Ne.symm hm.1)]
/-! ## what is walked -/
def GoodIt (K : PySem.W.Frag) (R0 : Hp) (J : It) (ds : List PyData) : Prop := ∀ (R H : Hp) (i : Nat), Same R0 R → Same R H →
  (i < ds.length → J.go i H ∧ ∀ x H', J.yld i H x H' → ∃ R', PStep R H R' H' ∧ ∃ d, ds[i]? = some d ∧ Dp K R' x d) ∧ (ds.length ≤ i → J.stop i H)
section
variable {K : PySem.W.Frag} {R0 : Hp}
theorem good_list {a : Addr} {xs : List V} {ds : List PyData} (h : SqL K R0 a xs) (ha : DpAll K R0 xs ds) : GoodIt K R0 (Itl K a) ds := fun R H i s1 s2 => by
  have hH : SqL K H a xs := s2.seq (s1.seq h)
  have hl := dpAll_len ha
  refine ⟨fun hi => ⟨⟨xs, xs[i]'(by omega), hH, List.getElem?_eq_getElem (by omega)⟩, fun x H' y => ?_⟩, fun hi => ⟨xs, hH, by omega⟩⟩
  obtain ⟨rfl, y⟩ := y
  obtain ⟨d, e, q⟩ := dpAll_get ha (y xs hH)
  exact ⟨R, .refl s2, d, e, dp_mono s1 _ _ q⟩
theorem good_tup {a : Addr} {xs : List V} {ds : List PyData} (h : SqT K R0 a xs) (ha : DpAll K R0 xs ds) : GoodIt K R0 (Itt K a) ds := fun R H i s1 s2 => by
  have hH : SqT K H a xs := same_seqT s2 (same_seqT s1 h)
  have hl := dpAll_len ha
  refine ⟨fun hi => ⟨⟨xs, xs[i]'(by omega), hH, List.getElem?_eq_getElem (by omega)⟩, fun x H' y => ?_⟩, fun hi => ⟨xs, hH, by omega⟩⟩
  obtain ⟨rfl, y⟩ := y
  obtain ⟨d, e, q⟩ := dpAll_get ha (y xs hH)
  exact ⟨R, .refl s2, d, e, dp_mono s1 _ _ q⟩
theorem good_str (z : Str) : GoodIt K R0 (Its z) (seqOf (.str z)) := fun R H i s1 s2 => by
  have hl : (seqOf (.str z)).length = z.cps.size := by simp [seqOf]
  refine ⟨fun hi => ⟨by show i < z.cps.size; omega, fun x H' y => ?_⟩, fun hi => by show z.cps.size ≤ i; omega⟩
  obtain ⟨rfl, c, ec, rfl⟩ := y
  refine ⟨R, .refl s2, .str ⟨#[c]⟩, ?_, .str _⟩
  show (z.cps.toList.map fun c => PyData.str ⟨#[c]⟩)[i]? = _
  rw [List.getElem?_map, Array.getElem?_toList, ec]; rfl
theorem good_range (lo : Int) (n : Nat) : GoodIt K R0 (Itr lo n) ((List.range n).map fun (i : Nat) => PyData.int (lo + i)) := fun R H i s1 s2 => by
  refine ⟨fun hi => ⟨by simpa [Itr] using hi, fun x H' y => ?_⟩, fun hi => by simpa [Itr] using hi⟩
  obtain ⟨rfl, rfl⟩ := y
  refine ⟨R, .refl s2, .int (lo + i), ?_, .int _⟩
  rw [List.length_map, List.length_range] at hi
  rw [List.getElem?_map, List.getElem?_range hi]; rfl
theorem good_rangeC (lo c : Int) (n : Nat) : GoodIt K R0 (Itc lo c n) ((List.range n).map fun (i : Nat) => PyData.int (lo + (i : Nat) * c)) := fun R H i s1 s2 => by
  refine ⟨fun hi => ⟨by simpa [Itc] using hi, fun x H' y => ?_⟩, fun hi => by simpa [Itc] using hi⟩
  obtain ⟨rfl, rfl⟩ := y
  refine ⟨R, .refl s2, .int (lo + (i : Nat) * c), ?_, .int _⟩
  rw [List.length_map, List.length_range] at hi
  rw [List.getElem?_map, List.getElem?_range hi]; rfl
end
/-! pure walks -/
def PIt (K : PySem.W.Frag) (ds : Env → List PyData) (n : Env → Prop) : TI := fun σ H Rr => ∃ R ρ fps, G K R H σ ρ fps ∧ n ρ ∧ ∀ J R' H', PStep R H R' H' → GoodIt K R' J (ds ρ) → Rr J H'
abbrev PVI (X : Cx) (tg e : Expr) (ds : Env → List PyData) (n : Env → Prop) : Prop := PI X tg e (PIt X.K ds n)
theorem pi_mono {X : Cx} {tg e : Expr} {t t' : TI} (h : PI X tg e t) (m : ∀ σ H Q, t' σ H Q → t σ H Q) : PI X tg e t' := ⟨fun pins s σ H Q I q => h.run pins s σ H Q I (m σ H Q q)⟩
def iSeq (K : PySem.W.Frag) (tl : TE) : TI := fun σ H R => tl σ H fun x H1 => (∃ a, x = .ref a ∧ (∃ xs, SqL K H1 a xs) ∧ R (Itl K a) H1) ∨ (∃ a, x = .ref a ∧ (∃ xs, SqT K H1 a xs) ∧ R (Itt K a) H1) ∨ ∃ z, x = .str z ∧ R (Its z) H1
section
variable {X : Cx} {tg : Expr} {va vb vc : Env → W} {na nb nc : Env → Prop} {da : Env → Out}
theorem pi_seq {l : Expr} {tl : TE} (hl : PE X l tl) : PI X tg l (iSeq X.K tl) := by
  refine ⟨fun pins s σ H R I h => thn (hl.run pins s σ H _ I h) fun v s1 hh => ?_⟩
  obtain ⟨x, H1, J, r1, q1⟩ := hh
  rcases q1 with ⟨a, rfl, ⟨xs, hq⟩, q⟩ | ⟨a, rfl, ⟨xs, hq⟩, q⟩ | ⟨z, rfl, q⟩
  · cases r1
    obtain ⟨its, _, p, _⟩ := J.list hq
    exact wpAny_pyIter_list p.isList (pi_one (tk := s1.toks) J _ (turn_list a _) ⟨_, Heap.get?_push_size _ rfl, rfl, rfl⟩ q)
  · cases r1
    obtain ⟨its, _, p, _⟩ := J.tuple hq
    exact wpAny_pyIter_tuple (show s1.heap.IsTuple a its.toArray from p) (pi_one (tk := s1.toks) J _ (turn_tuple a _) ⟨_, Heap.get?_push_size _ rfl, rfl, rfl⟩ q)
  · obtain ⟨t, rfl⟩ := r1
    cases e : z.cps.all (· < 128) with
    | false => exact wpAny_pyIter_wide e (pi_one (tk := s1.toks) J _ (turn_str _ z t "str_iterator" (.inr rfl)) ⟨_, Heap.get?_push_size _ rfl, rfl, rfl⟩ q)
    | true => exact wpAny_pyIter_ascii e (pi_one (tk := s1.toks) J _ (turn_str _ z t "str_ascii_iterator" (.inl rfl)) ⟨_, Heap.get?_push_size _ rfl, rfl, rfl⟩ q)
@[simp] def isSeqD : PyData → Prop
  | .list _ => True
  | .tuple _ => True
  | .str _ => True
  | _ => False
/-- a shared value is walked -/
theorem seq_good {K : PySem.W.Frag} {R H : Hp} {v : V} {d : PyData} (s : Same R H) (h : Dp K R v d) (hs : isSeqD d) {Q : It → Hp → Prop} (k : ∀ J, GoodIt K R J (seqOf d) → Q J H) :
    (∃ a, v = .ref a ∧ (∃ xs, SqL K H a xs) ∧ Q (Itl K a) H) ∨ (∃ a, v = .ref a ∧ (∃ xs, SqT K H a xs) ∧ Q (Itt K a) H) ∨ ∃ z, v = .str z ∧ Q (Its z) H := by
  cases h with
  | lst h1 h2 => exact .inl ⟨_, rfl, ⟨_, s.seq h1⟩, k _ (good_list h1 h2)⟩
  | tup h1 h2 => exact .inr (.inl ⟨_, rfl, ⟨_, same_seqT s h1⟩, k _ (good_tup h1 h2)⟩)
  | str z => exact .inr (.inr ⟨z, rfl, k _ (good_str z)⟩)
  | _ => exact hs.elim
theorem pvi_seq {l : Expr} (hl : PV X l va na) : PVI X tg l (fun ρ => seqOf (view ρ (va ρ))) (fun ρ => na ρ ∧ canSh ρ (va ρ) ∧ isSeqD (view ρ (va ρ))) := by
  refine pi_mono (pi_seq hl) fun σ H Q ⟨R, ρ, fps, g, ⟨h1, h2, h3⟩, k⟩ => ⟨R, ρ, fps, g, h1, fun v R1 H1 fv p r => ?_⟩
  obtain ⟨p1, q⟩ := r.freeze (g.step p) p h2
  exact seq_good p1.sub q h3 fun J hJ => k J _ H1 p1 hJ
def rng1 (j : Int) : List PyData := (List.range j.toNat).map fun (i : Nat) => PyData.int i
def rng2 (i j : Int) : List PyData := (List.range (j - i).toNat).map fun (k : Nat) => PyData.int (i + k)
def rngDown (i j : Int) : List PyData := (List.range (i - j).toNat).map fun (k : Nat) => PyData.int (i - k)
def small62 (i : Int) : Prop := -(2 ^ 62) ≤ i ∧ i < 2 ^ 62
theorem isI_dp {K : PySem.W.Frag} {H : Hp} {v : V} {d : PyData} (h : Dp K H v d) (hi : isI d) : v = .int (asI d) := by
  cases d with
  | int i => exact dp_int h
  | _ => exact hi.elim
theorem pvi_range1 {a : Expr} {p pos : Pos} (hm : X.mg "range" = none) (ha : PV X a va na) (hg : Gl X "range" := by rfl) (hs : starEach [a] X.env = [(false, eval a X.env)] := by rfl) :
    PVI X tg (.Call (.Name "range" p) [a] [] pos) (fun ρ => rng1 (asI (view ρ (va ρ)))) (fun ρ => na ρ ∧ isI (view ρ (va ρ)) ∧ small62 (asI (view ρ (va ρ)))) := by
  refine pi_mono (pi_range1 hg hm (pa_cons ha pa_nil hs) hs) fun σ H Q ⟨R, ρ, fps, g, ⟨h1, h2, h3⟩, k⟩ => ⟨R, ρ, fps, g, h1, fun v R1 H1 fv p1 r => ?_⟩
  refine ⟨asI (view ρ (va ρ)), by rw [isI_dp (r.dp (g.step p1)) h2], h3.1, h3.2, k _ R1 H1 p1 ?_⟩
  have q := good_range (K := X.K) (R0 := R1) 0 (asI (view ρ (va ρ))).toNat
  simpa [rng1] using q
theorem pvi_range2 {a b : Expr} {p pos : Pos} (hm : X.mg "range" = none) (ha : PV X a va na) (hb : PV X b vb nb) (hg : Gl X "range" := by rfl) (hs : starEach [a, b] X.env = [(false, eval a X.env), (false, eval b X.env)] := by rfl) (hs2 : starEach [b] X.env = [(false, eval b X.env)] := by rfl) :
    PVI X tg (.Call (.Name "range" p) [a, b] [] pos) (fun ρ => rng2 (asI (view ρ (va ρ))) (asI (view ρ (vb ρ)))) (fun ρ => na ρ ∧ nb ρ ∧ isI (view ρ (va ρ)) ∧ isI (view ρ (vb ρ)) ∧ small62 (asI (view ρ (va ρ))) ∧ small62 (asI (view ρ (vb ρ)))) := by
  refine pi_mono (pi_range2 hg hm (pa_cons ha (pa_cons hb pa_nil hs2) (by rw [hs, hs2])) hs hs2) fun σ H Q ⟨R, ρ, fps, g, ⟨h1, h2, h3, h4, h5, h6⟩, k⟩ => ?_
  refine two ⟨R, ρ, fps, g, h1, h2, fun x y R2 H2 fx fy p2 g2 rx ry _ => ?_⟩
  refine ⟨asI (view ρ (va ρ)), asI (view ρ (vb ρ)), by rw [isI_dp (rx.dp g2) h3, isI_dp (ry.dp g2) h4], ⟨h5.1, h5.2, h6.1, h6.2⟩, k _ R2 H2 p2 ?_⟩
  exact good_range _ _
/-- range(a, b, -1) -/
theorem pvi_down {a b : Expr} {j : Nat} {p pos p1 p2 : Pos} (hm : X.mg "range" = none) (ha : PV X a va na) (hb : PV X b vb nb) (hg : Gl X "range" := by rfl)
    (hs2 : starEach [b, .UnaryOp .USub (.Constant (.int 1) j p1) p2] X.env = (false, eval b X.env) :: starEach [.UnaryOp .USub (.Constant (.int 1) j p1) p2] X.env := by rfl)
    (hs3 : starEach [.UnaryOp .USub (.Constant (.int 1) j p1) p2] X.env = (false, eval (.UnaryOp .USub (.Constant (.int 1) j p1) p2) X.env) :: starEach [] X.env := by rfl)
    (hs : starEach [a, b, .UnaryOp .USub (.Constant (.int 1) j p1) p2] X.env = (false, eval a X.env) :: starEach [b, .UnaryOp .USub (.Constant (.int 1) j p1) p2] X.env := by rfl) (hpl : (backTo pos (starEach [b, .UnaryOp .USub (.Constant (.int 1) j p1) p2] X.env)).any (·.1) = false := by rfl) :
    PVI X tg (.Call (.Name "range" p) [a, b, .UnaryOp .USub (.Constant (.int 1) j p1) p2] [] pos) (fun ρ => rngDown (asI (view ρ (va ρ))) (asI (view ρ (vb ρ)))) (fun ρ => na ρ ∧ nb ρ ∧ isI (view ρ (va ρ)) ∧ isI (view ρ (vb ρ)) ∧ small62 (asI (view ρ (va ρ))) ∧ small62 (asI (view ρ (vb ρ)))) := by
  refine pi_mono (pi_range3 hg hm (pa_cons ha (pa_cons hb (pa_cons (pe_un un_neg pe_int) pa_nil hs3) hs2) hs) hs hpl) fun σ H Q ⟨R, ρ, fps, g, ⟨h1, h2, h3, h4, h5, h6⟩, k⟩ => ?_
  refine two ⟨R, ρ, fps, g, h1, h2, fun x y R2 H2 fx fy p2 g2 rx ry _ => ⟨1, rfl, ?_⟩⟩
  refine ⟨asI (view ρ (va ρ)), asI (view ρ (vb ρ)), -1, (asI (view ρ (va ρ)) - asI (view ρ (vb ρ))).toNat, by rw [isI_dp (rx.dp g2) h3, isI_dp (ry.dp g2) h4], RgC.neg h5.1 h5.2 h6.1 h6.2, k _ R2 H2 p2 ?_⟩
  have q := good_rangeC (K := X.K) (R0 := R2) (asI (view ρ (va ρ))) (-1) (asI (view ρ (va ρ)) - asI (view ρ (vb ρ))).toNat
  simpa [rngDown, Int.sub_eq_add_neg] using q
/-! walks that change -/
structure OutI where
  ds : List PyData
  env : Env
  need : Prop
def XIt (K : PySem.W.Frag) (den : Env → OutI) : TI := fun σ H Rr => ∃ R ρ fps, G K R H σ ρ fps ∧ (den ρ).need ∧ ∀ J R' H' fps', After K R H fps R' H' σ (den ρ).env fps' → GoodIt K R' J (den ρ).ds → Rr J H'
abbrev XI (X : Cx) (tg e : Expr) (den : Env → OutI) : Prop := PI X tg e (XIt X.K den)
theorem xi_pure {e : Expr} {ds : Env → List PyData} {n : Env → Prop} (h : PVI X tg e ds n) : XI X tg e (fun ρ => ⟨ds ρ, ρ, n ρ⟩) :=
  pi_mono h fun σ H Q ⟨R, ρ, fps, g, hn, k⟩ => ⟨R, ρ, fps, g, hn, fun J R' H' p => k J R' H' fps (.pure g p)⟩
theorem xi_range1 {a : Expr} {p pos : Pos} (hm : X.mg "range" = none) (ha : XV X a da) (hg : Gl X "range" := by rfl) (hs : starEach [a] X.env = [(false, eval a X.env)] := by rfl) :
    XI X tg (.Call (.Name "range" p) [a] [] pos) (fun ρ => ⟨rng1 (asI (view (da ρ).env (da ρ).w)), (da ρ).env, (da ρ).need ∧ isI (view (da ρ).env (da ρ).w) ∧ small62 (asI (view (da ρ).env (da ρ).w))⟩) := by
  refine pi_mono (pi_range1 hg hm (pa_cons ha pa_nil hs) hs) fun σ H Q ⟨R, ρ, fps, g, ⟨h1, h2, h3⟩, k⟩ => ⟨R, ρ, fps, g, h1, fun v R1 H1 fps1 fv a1 r => ?_⟩
  refine ⟨asI (view (da ρ).env (da ρ).w), by rw [isI_dp (r.dp a1) h2], h3.1, h3.2, k _ R1 H1 fps1 a1 ?_⟩
  have q := good_range (K := X.K) (R0 := R1) 0 (asI (view (da ρ).env (da ρ).w)).toNat
  simpa [rng1] using q
/-! ## comprehensions -/
theorem wipe_get {τ : L2.St} {j : Nat} : ∀ {vs : List Nat}, j ∈ vs → (L2.wipe τ vs)[j]? = if j < τ.length then some none else none
  | v :: vs, h => by
    unfold L2.wipe
    by_cases e : v = j
    · subst e
      by_cases hl : v < τ.length
      · rw [List.getElem?_set_self (by rw [L2.wipe_length]; exact hl), if_pos hl]
      · rw [List.getElem?_eq_none (by rw [List.length_set, L2.wipe_length]; omega), if_neg hl]
    · rw [List.getElem?_set_ne e]
      rcases List.mem_cons.mp h with z | z
      · exact absurd z.symm e
      · exact wipe_get z
theorem wipe_eq {σ τ : L2.St} {vs : List Nat} (hl : σ.length = τ.length) (h : ∀ j, j ∉ vs → σ[j]? = τ[j]?) : L2.wipe σ vs = L2.wipe τ vs := by
  apply List.ext_getElem?
  intro j
  by_cases hj : j ∈ vs
  · rw [wipe_get hj, wipe_get hj, hl]
  · rw [L2.wipe_out hj, L2.wipe_out hj, h j hj]
theorem wipe_wipe {σ : L2.St} {vs : List Nat} : L2.wipe (L2.wipe σ vs) vs = L2.wipe σ vs := wipe_eq (L2.wipe_length σ vs) fun j hj => L2.wipe_out hj
@[simp ↓] def compD (vs : List Nat) (tg : PyData → Env → Env) (c : Env → Bool) (e : Env → W) (ρ : Env) (ds : List PyData) : List PyData :=
  (ds.filter fun d => c (tg d (wipeE ρ vs))).map fun d => view (tg d (wipeE ρ vs)) (e (tg d (wipeE ρ vs)))
@[simp ↓] def compN (vs : List Nat) (tg : PyData → Env → Env) (nt : PyData → Prop) (ix : List Nat) (c : Env → Bool) (nc : Env → Prop) (e : Env → W) (ne : Env → Prop) (ρ : Env) (ds : List PyData) : Prop :=
  ds.length < sizeLine ∧ (∀ i ∈ ix, i < ρ.length) ∧ ∀ d ∈ ds, nt d ∧ nc (tg d (wipeE ρ vs)) ∧ (c (tg d (wipeE ρ vs)) = true → ne (tg d (wipeE ρ vs)) ∧ canSh (tg d (wipeE ρ vs)) (e (tg d (wipeE ρ vs))))
theorem comp_t {ds : Env → List PyData} {ni : Env → Prop} {t : TG} {tgf : PyData → Env → Env} {nt : PyData → Prop} {ix : List Nat} {c : Env → Bool} {ct : Env → Prop} {ve : Env → W} {ne : Env → Prop} (T : TGo X.K t tgf nt ix) :
    ∀ (σ : L2.St) (H : Hp) (Q : VK), PVt X.K (fun ρ => .o (.lst (compD ix tgf c ve ρ (ds ρ)))) (fun ρ => ni ρ ∧ compN ix tgf nt ix c ct ve ne ρ (ds ρ)) σ H Q → tLc (PIt X.K ds ni) t (PTt X.K c ct) (PVt X.K ve ne) ix σ H Q := by
  intro σ H Q hh
  obtain ⟨R, ρ, fps, g, ⟨h1, hlen, hixl, hall⟩, k⟩ := hh
  refine ⟨R, ρ, fps, g, h1, fun J R1 H1 p1 good D hD => ?_⟩
  have pD : PStep R H R1 (upd H1 D (.lst [])) := ⟨p1.h.trans (same_upd hD), p1.r, p1.fr, p1.sub.trans (same_upd hD)⟩
  refine ⟨fun i m H2 => ∃ R2 acc, PStep R H R2 H2 ∧ Same R1 R2 ∧ R2 D = none ∧ H2 D = some (.lst acc) ∧ DpAll X.K R2 acc (compD ix tgf c ve ρ ((ds ρ).take i)) ∧ i ≤ (ds ρ).length ∧ acc.length ≤ i ∧ m = (ds ρ).length - i,
    ⟨(ds ρ).length, R1, [], pD, Same.refl _, p1.sub.free hD, upd_same, .nil, Nat.zero_le _, Nat.le_refl _, by omega⟩, ?_⟩
  rintro i m H2 ⟨R2, acc, p2, s12, rD, hDl, hacc, hi', hal, rfl⟩
  obtain ⟨gd, gs⟩ := good R2 H2 i s12 p2.sub
  by_cases hlt : i < (ds ρ).length
  · refine .inr ⟨(gd hlt).1, fun H3 => ∃ R3 acc, PStep R H R3 H3 ∧ Same R1 R3 ∧ R3 D = none ∧ H3 D = some (.lst acc) ∧ DpAll X.K R3 acc (compD ix tgf c ve ρ ((ds ρ).take (i + 1))) ∧ acc.length ≤ i + 1, fun H3 ⟨R3, acc', q1, q2, q3, q4, q5, q6⟩ => ⟨(ds ρ).length - (i + 1), by omega, R3, acc', q1, q2, q3, q4, q5, hlt, q6, rfl⟩, fun x H3 hy => ?_⟩
    obtain ⟨R3, p3, d, ed, hd⟩ := (gd hlt).2 x H3 hy
    have hmem : d ∈ ds ρ := List.mem_of_getElem? ed
    obtain ⟨nd1, nd2, nd3⟩ := hall d hmem
    have p13 := p2.trans p3
    have g3 : G X.K R3 H3 (L2.wipe σ ix) (wipeE ρ ix) (fun i => if i ∈ ix then [] else fps i) := (g.step p13).wipe ix
    have rD3 : R3 D = none := by
      cases q : R3 D with
      | none => rfl
      | some o =>
        rcases p3.fr D (by rw [q]; simp) with z | z
        · exact absurd rD z
        · rw [hDl] at z; cases z
    have etake : (ds ρ).take (i + 1) = (ds ρ).take i ++ [d] := by rw [List.take_add_one, ed]; rfl
    refine T d x R3 (L2.wipe σ ix) H3 (wipeE ρ ix) _ _ g3 hd nd1 (fun j hj => by rw [wipeE_len]; exact hixl j hj) fun σ' fps' g4 _ hσ hσl => ⟨?_, ?_⟩
    · rw [wipe_eq (τ := L2.wipe σ ix) hσl hσ, wipe_wipe]
    · refine ⟨R3, _, fps', g4, nd2, fun R4 H4 p4 => ?_⟩
      have p14 := p13.trans p4
      have rD4 : R4 D = none := by
        cases q : R4 D with
        | none => rfl
        | some o =>
          rcases p4.fr D (by rw [q]; simp) with z | z
          · exact absurd rD3 z
          · rw [p3.h D _ hDl] at z; cases z
      have hD4 : H4 D = some (.lst acc) := p4.h D _ (p3.h D _ hDl)
      cases ec : c (tgf d (wipeE ρ ix)) with
      | false =>
        refine iteF ⟨R4, acc, p14, s12.trans (p3.r.trans p4.r), rD4, hD4, ?_, by omega⟩
        rw [etake, compD, List.filter_append, List.map_append]
        have e0 : (List.filter (fun d => c (tgf d (wipeE ρ ix))) [d]) = [] := by simp [ec]
        rw [e0, List.map_nil, List.append_nil]
        exact dpAll_mono (p3.r.trans p4.r) _ _ hacc
      | true =>
        refine iteT ⟨R4, _, fps', g4.step p4, (nd3 ec).1, fun y R5 H5 fy p5 r5 => ?_⟩
        obtain ⟨p6, hy6⟩ := r5.freeze ((g4.step p4).step p5) p5 (nd3 ec).2
        have hD5 : H5 D = some (.lst acc) := p5.h D _ hD4
        have rD6 : share R5 H5 fy D = none := by
          cases q : share R5 H5 fy D with
          | none => rfl
          | some o =>
            rcases p6.fr D (by rw [q]; simp) with z | z
            · exact absurd rD4 z
            · rw [hD4] at z; cases z
        refine ⟨acc, hD5, by omega, share R5 H5 fy, acc ++ [y], ?_, s12.trans (p3.r.trans (p4.r.trans p6.r)), rD6, upd_same, ?_, by rw [List.length_append, List.length_singleton]; omega⟩
        · have p16 := p14.trans p6
          refine ⟨fun b o e => ?_, p16.r, p16.fr, fun b o e => ?_⟩
          · by_cases hb : b = D
            · subst hb; rw [p1.h b o e] at hD; cases hD
            · rw [upd_ne hb]; exact p16.h b o e
          · by_cases hb : b = D
            · subst hb; rw [rD6] at e; cases e
            · rw [upd_ne hb]; exact p16.sub b o e
        · rw [etake, compD, List.filter_append, List.map_append]
          have e0 : (List.filter (fun d => c (tgf d (wipeE ρ ix))) [d]) = [d] := by simp [ec]
          rw [e0]
          exact dpAll_app (dpAll_mono (p3.r.trans (p4.r.trans p6.r)) _ _ hacc) (.cons hy6 .nil)
  · have ei : i = (ds ρ).length := by omega
    subst ei
    rw [List.take_length] at hacc
    refine .inl ⟨gs (Nat.le_refl _), k _ R2 H2 [D] p2 ⟨⟨D, acc, rfl, hDl, hacc, rfl⟩, by simp, fun b hb => ?_⟩⟩
    have e : b = D := by simpa using hb
    subst e
    exact ⟨p1.h.free hD, rD⟩
theorem pv_comp {elt iter : Expr} {ifs : List Expr} {scope : Scope} {own : List (Str × Nat)} {pos : Pos} {ds : Env → List PyData} {ni : Env → Prop} {t : TG} {tgf : PyData → Env → Env} {nt : PyData → Prop} {ix : List Nat} {c : Env → Bool} {ct : Env → Prop} {ve : Env → W} {ne : Env → Prop}
    (hc : X.calm = true) (hN : X.N.Nodup) (ok : BlkOk X.N X.env.scope scope own) (hi : PVI X tg iter ds ni) (T : TGo X.K t tgf nt ix) (hix : ix = own.map (·.2))
    (hg : ∀ (s : Shared) (H : Hp) (C : Addr) (cl : List (Str × Addr)) (fp : List Addr), PG (X.blk s H scope (compEnvC scope cl C X.env) fp) tg t)
    (ht : ∀ (s : Shared) (H : Hp) (C : Addr) (cl : List (Str × Addr)) (fp : List Addr), PTs (X.blk s H scope (compEnvC scope cl C X.env) fp) ifs (PTt X.K c ct))
    (he : ∀ (s : Shared) (H : Hp) (C : Addr) (cl : List (Str × Addr)) (fp : List Addr), PV (X.blk s H scope (compEnvC scope cl C X.env) fp) elt ve ne) (hs : ∀ x, foldedSetIterable iter X.env x = pure x := by intro _; rfl) :
    PV X (.ListComp elt [⟨tg, iter, ifs, 0⟩] scope pos) (fun ρ => .o (.lst (compD ix tgf c ve ρ (ds ρ)))) (fun ρ => ni ρ ∧ compN ix tgf nt ix c ct ve ne ρ (ds ρ)) := by
  subst hix
  exact pe_mono (pe_lc (te := PVt X.K ve ne) hc hN hi ok hg ht (fun s H C cl fp => he s H C cl fp) hs) (comp_t T)
end
end TL
set_option linter.all false
set_option maxRecDepth 100000
set_option maxHeartbeats 1000000
set_option autoImplicit false
namespace TL
open PySem PySem.Spec PyProof.Rows L2
section
variable {K : PySem.W.Frag} {R H R' H' R2 H2 : Hp} {σ σ' σ2 : L2.St} {ρ ρ' ρ2 : Env} {fps fps' fps2 : Nat → List Addr}
/-! ## changes of a list that a slot owns -/
theorem slot_lst {i : Nat} {ds : List PyData} (g : G K R H σ ρ fps) (e : ρ[i]? = some (some (.lst ds))) : ∃ p xs, σ[i]? = some (some (.ref p)) ∧ H p = some (.lst xs) ∧ DpAll K R xs ds ∧ fps i = [p] := by
  obtain ⟨v, e1, a, xs, rfl, h, q, f⟩ := g.rep i _ e
  exact ⟨a, xs, e1, h, q, f⟩
theorem After.mut {i : Nat} {p : Addr} {ds ds' : List PyData} {xs' : List V} (a : After K R H fps R' H' σ' ρ' fps') (e : ρ'[i]? = some (some (.lst ds))) (hp : σ'[i]? = some (some (.ref p))) (hd : DpAll K R' xs' ds') :
    After K R H fps R' (upd H' p (.lst xs')) σ' (ρ'.set i (some (.lst ds'))) fps' := by
  obtain ⟨p', xs, e1, h, q, f⟩ := slot_lst a.g e
  rw [hp] at e1; cases e1
  have hi : i < ρ'.length := (List.getElem?_eq_some_iff.mp e).1
  have pin : p ∈ fps' i := by rw [f]; simp
  have sb : Same R' (upd H' p (.lst xs')) := fun b o z => by
    have : b ≠ p := fun w => by subst w; rw [a.g.off i b pin] at z; cases z
    rw [upd_ne this]; exact a.g.sub b o z
  have np : ∀ j, j ≠ i → p ∉ fps' j := fun j hj => a.g.dj i j p (Ne.symm hj) pin
  refine ⟨⟨sb, fun j y ey => ?_, a.g.nd, a.g.dj, a.g.off, fun j b hb => ?_, by rw [List.length_set]; exact a.g.len⟩, a.r, a.fr, fun b o hn hb => ?_, fun b hb => ?_, a.own⟩
  · by_cases hj : j = i
    · subst hj
      rw [List.getElem?_set_self hi] at ey
      cases ey
      exact ⟨_, hp, p, xs', rfl, upd_same, hd, f⟩
    · rw [List.getElem?_set_ne (Ne.symm hj)] at ey
      obtain ⟨v, e2, r⟩ := a.g.rep j y ey
      exact ⟨v, e2, rep_mono (Same.refl _) y v _ r fun b o hb z => by
        rw [upd_ne (fun w => np j hj (by rw [← w]; exact hb))]; exact z⟩
  · by_cases w : b = p
    · rw [w, upd_same]; simp
    · rw [upd_ne w]; exact a.g.on j b hb
  · have w : b ≠ p := fun w => by
      subst w
      rcases a.own i b pin with ⟨j, z⟩ | z
      · exact hn j z
      · rw [hb] at z; cases z
    rw [upd_ne w]; exact a.keep b o hn hb
  · by_cases w : b = p
    · rw [w, upd_same] at hb; cases hb
    · rw [upd_ne w] at hb; exact a.dom b hb
theorem After.wide {fpsB : Nat → List Addr} (a : After K R H fps R' H' σ' ρ' fps') (h : ∀ i b, b ∈ fps i → ∃ j, b ∈ fpsB j) : After K R H fpsB R' H' σ' ρ' fps' :=
  ⟨a.g, a.r, fun b z => (a.fr b z).imp_right fun z => z.imp_right fun ⟨i, z⟩ => h i b z, fun b o hn hb => a.keep b o (fun i z => let ⟨j, q⟩ := h i b z; hn j q) hb, a.dom, fun i b z => (a.own i b z).imp_left fun ⟨j, z⟩ => h j b z⟩
/-- a store of a slot -/
theorem After.set {i : Nat} {x : O} {v : V} {f : List Addr} (a : After K R H fps R' H' σ' ρ' fps') (hi : i < ρ'.length) (r : RX K R' H' H fps fps' σ' ρ' (.o x) v f) :
    After K R H fps R' H' (σ'.set i (some v)) (ρ'.set i (some x)) (fset fps' i f) := by
  obtain ⟨h1, h2, h3⟩ := r
  refine ⟨a.g.set hi h1 h2 (fun b hb => (h3 b hb).1) fun j _ b hb => (h3 b hb).2.1 j, a.r, a.fr, a.keep, a.dom, fun j b hb => ?_⟩
  by_cases hj : j = i
  · rw [hj, fset_same] at hb; exact (h3 b hb).2.2
  · rw [fset_ne hj] at hb; exact a.own j b hb
end
/-! ## statements -/
structure TEnds where
  nx : Env → Prop
  rt : W → Env → Prop
  bk : Env → Prop := fun _ => False
  ct : Env → Prop := fun _ => False
abbrev Pin (pn : List Nat) (σ σ' : L2.St) : Prop := ∀ i ∈ pn, σ'[i]? = σ[i]?
structure EndsOk (K : PySem.W.Frag) (pn : List Nat) (R H : Hp) (fps : Nat → List Addr) (σ : L2.St) (T : TEnds) (D : Ends) : Prop where
  nx : ∀ R' H' σ' ρ' fps', After K R H fps R' H' σ' ρ' fps' → Pin pn σ σ' → T.nx ρ' → D.nx σ' H'
  rt : ∀ R' H' σ' ρ' fps' w v fv, After K R H fps R' H' σ' ρ' fps' → Pin pn σ σ' → RX K R' H' H fps fps' σ' ρ' w v fv → T.rt w ρ' → D.rt v H'
  bk : ∀ R' H' σ' ρ' fps', After K R H fps R' H' σ' ρ' fps' → Pin pn σ σ' → T.bk ρ' → D.bk σ' H'
  ct : ∀ R' H' σ' ρ' fps', After K R H fps R' H' σ' ρ' fps' → Pin pn σ σ' → T.ct ρ' → D.ct σ' H'
def XSt (K : PySem.W.Frag) (pn : List Nat) (den : TEnds → Env → Prop) : TS := fun D σ H => ∃ R ρ fps T, G K R H σ ρ fps ∧ den T ρ ∧ EndsOk K pn R H fps σ T D
abbrev XS (X : Cx) (pn : List Nat) (st : Stmt) (den : TEnds → Env → Prop) : Prop := PS X st (XSt X.K pn den)
abbrev XSs (X : Cx) (pn : List Nat) (st : List Stmt) (den : TEnds → Env → Prop) : Prop := PSs X st (XSt X.K pn den)
section
variable {K : PySem.W.Frag} {R H R' H' R2 H2 : Hp} {σ σ' σ2 : L2.St} {ρ ρ' ρ2 : Env} {fps fps' fps2 : Nat → List Addr} {pn : List Nat} {T : TEnds} {D : Ends}
theorem RX.olderS {w : W} {v : V} {fv : List Addr} (a : After K R H fps R' H' σ' ρ' fps') (r : RX K R2 H2 H' fps' fps2 σ2 ρ2 w v fv) : RX K R2 H2 H fps fps2 σ2 ρ2 w v fv := by
  cases w with
  | al i => exact r
  | o x =>
    refine ⟨r.1, r.2.1, fun c hc => ⟨(r.2.2 c hc).1, (r.2.2 c hc).2.1, ?_⟩⟩
    rcases (r.2.2 c hc).2.2 with ⟨j, z⟩ | z
    · exact a.own j c z
    · exact .inr (a.dom c z)
/-- the ends, seen from a later state -/
theorem EndsOk.later (E : EndsOk K pn R H fps σ T D) (a : After K R H fps R' H' σ' ρ' fps') (p : Pin pn σ σ') : EndsOk K pn R' H' fps' σ' T D where
  nx := fun R2 H2 σ2 ρ2 fps2 b q h => E.nx R2 H2 σ2 ρ2 fps2 (a.trans b) (fun i hi => (q i hi).trans (p i hi)) h
  rt := fun R2 H2 σ2 ρ2 fps2 w v fv b q r h => E.rt R2 H2 σ2 ρ2 fps2 w v fv (a.trans b) (fun i hi => (q i hi).trans (p i hi)) (RX.olderS a r) h
  bk := fun R2 H2 σ2 ρ2 fps2 b q h => E.bk R2 H2 σ2 ρ2 fps2 (a.trans b) (fun i hi => (q i hi).trans (p i hi)) h
  ct := fun R2 H2 σ2 ρ2 fps2 b q h => E.ct R2 H2 σ2 ρ2 fps2 (a.trans b) (fun i hi => (q i hi).trans (p i hi)) h
end
section
variable {X : Cx} {pn : List Nat} {d1 d2 : TEnds → Env → Prop} {da : Env → Out} {st : Stmt} {rest : List Stmt} {pos : Pos}
@[simp ↓] def dSeq (d1 d2 : TEnds → Env → Prop) : TEnds → Env → Prop := fun T ρ => d1 { T with nx := fun ρ' => d2 T ρ' } ρ
theorem xss_nil : XSs X pn [] (fun T ρ => T.nx ρ) := pss_mono pss_nil fun D σ H ⟨R, ρ, fps, T, g, h, E⟩ => E.nx R H σ ρ fps (.refl g) (fun _ _ => rfl) h
theorem xss_cons (h1 : XS X pn st d1) (h2 : XSs X pn rest d2) : XSs X pn (st :: rest) (dSeq d1 d2) := by
  refine pss_mono (pss_cons h1 h2) fun D σ H ⟨R, ρ, fps, T, g, h, E⟩ => ⟨R, ρ, fps, { T with nx := fun ρ' => d2 T ρ' }, g, h, ?_⟩
  exact ⟨fun R' H' σ' ρ' fps' a p hn => ⟨R', ρ', fps', T, a.g, hn, E.later a p⟩, E.rt, E.bk, E.ct⟩
theorem xss_one (h1 : XS X pn st d1) : XSs X pn [st] d1 := pss_one h1
/-- what comes in may be seen otherwise (a slot made shared, say) -/
theorem xss_imp {sts : List Stmt} (h : XSs X pn sts d1) (m : ∀ T ρ, d2 T ρ → d1 T ρ) : XSs X pn sts d2 := pss_mono h fun D σ H ⟨R, ρ, fps, T, g, q, E⟩ => ⟨R, ρ, fps, T, g, m T ρ q, E⟩
theorem xs_imp (h : XS X pn st d1) (m : ∀ T ρ, d2 T ρ → d1 T ρ) : XS X pn st d2 := ps_mono h fun D σ H ⟨R, ρ, fps, T, g, q, E⟩ => ⟨R, ρ, fps, T, g, m T ρ q, E⟩
/-- a slot's list is shared from here on -/
@[simp] def fzE (i : Nat) (ρ : Env) : Env := match ρ[i]? with
  | some (some x) => ρ.set i (some (.sh x.fg))
  | _ => ρ
theorem After.fz {K : PySem.W.Frag} {R H : Hp} {σ : L2.St} {ρ : Env} {fps : Nat → List Addr} (g : G K R H σ ρ fps) (i : Nat) : ∃ R' fps', After K R H fps R' H σ (fzE i ρ) fps' := by
  unfold fzE
  cases e : ρ[i]? with
  | none => exact ⟨R, fps, .refl g⟩
  | some y =>
    cases y with
    | none => exact ⟨R, fps, .refl g⟩
    | some x =>
      obtain ⟨v, e1, r⟩ := g.rep i x e
      have hi : i < ρ.length := (List.getElem?_eq_some_iff.mp e).1
      have sm : Same R (share R H (fps i)) := share_mono g.sub
      have q : Dp K (share R H (fps i)) v x.fg := rep_dp sm x v _ r fun a o ha h => by rw [share_in ha]; exact h
      refine ⟨share R H (fps i), fset fps i [], ⟨⟨share_sub g.sub, fun j y ey => ?_, fun j => ?_, fun j k a ne h => ?_, fun j a h => ?_, fun j a h => ?_, by rw [List.length_set]; exact g.len⟩, sm, fun a h => ?_, fun _ _ _ h => h, fun _ h => h, fun j a h => ?_⟩⟩
      · by_cases hj : j = i
        · subst hj
          rw [List.getElem?_set_self hi] at ey
          cases ey
          exact ⟨v, e1, q, fset_same⟩
        · rw [List.getElem?_set_ne (Ne.symm hj)] at ey
          obtain ⟨u, e2, r2⟩ := g.rep j y ey
          exact ⟨u, e2, by rw [fset_ne hj]; exact rep_mono sm y u _ r2 fun _ _ _ z => z⟩
      · by_cases hj : j = i
        · rw [hj, fset_same]; exact List.nodup_nil
        · rw [fset_ne hj]; exact g.nd j
      · by_cases hj : j = i
        · rw [hj, fset_same] at h; cases h
        · rw [fset_ne hj] at h
          by_cases hk : k = i
          · rw [hk, fset_same]; simp
          · rw [fset_ne hk]; exact g.dj j k a ne h
      · by_cases hj : j = i
        · rw [hj, fset_same] at h; cases h
        · rw [fset_ne hj] at h
          rw [share_out (g.dj j i a hj h)]
          exact g.off j a h
      · by_cases hj : j = i
        · rw [hj, fset_same] at h; cases h
        · rw [fset_ne hj] at h; exact g.on j a h
      · rcases share_or a h with z | z
        · exact .inl z
        · exact .inr (.inr ⟨i, z⟩)
      · by_cases hj : j = i
        · rw [hj, fset_same] at h; cases h
        · rw [fset_ne hj] at h; exact .inl ⟨j, h⟩
theorem xss_fz (i : Nat) {sts : List Stmt} (h : XSs X pn sts d1) : XSs X pn sts (fun T ρ => d1 T (fzE i ρ)) := pss_mono h fun D σ H ⟨R, ρ, fps, T, g, q, E⟩ => by
  obtain ⟨R', fps', a⟩ := After.fz g i
  exact ⟨R', fzE i ρ, fps', T, a.g, q, E.later a fun _ _ => rfl⟩
/-! ### stores -/
@[simp] def oOf : W → O
  | .o x => x
  | .al _ => .sh .none
@[simp ↓] def dAsgO (i : Nat) (da : Env → Out) : TEnds → Env → Prop := fun T ρ => (da ρ).need ∧ isO (da ρ).w ∧ i < (da ρ).env.length ∧ T.nx ((da ρ).env.set i (some (oOf (da ρ).w)))
@[simp ↓] def dAsg (i : Nat) (da : Env → Out) : TEnds → Env → Prop := fun T ρ => (da ρ).need ∧ isO (da ρ).w ∧ i < (da ρ).env.length ∧ T.nx ((da ρ).env.set i (some (.sh (view (da ρ).env (da ρ).w))))
theorem asgO_t {t : TE} {i : Nat} (hi : i ∉ pn) (m : ∀ σ H Q, XVt X.K da σ H Q → t σ H Q) : ∀ D σ H, XSt X.K pn (dAsgO i da) D σ H → tAsg t (gName i) D σ H := by
  intro D σ H ⟨R, ρ, fps, T, g, ⟨h1, h2, h3, h4⟩, E⟩
  refine m σ H _ ⟨R, ρ, fps, g, h1, fun v R1 H1 fps1 fv a r => ?_⟩
  show D.nx (σ.set i (some v)) H1
  cases e : (da ρ).w with
  | al j => rw [e] at h2; exact h2.elim
  | o x =>
    rw [e] at r h4
    refine E.nx R1 H1 _ _ _ (a.set h3 r) (fun j hj => ?_) h4
    have : i ≠ j := fun z => hi (by rw [z]; exact hj)
    exact List.getElem?_set_ne this
theorem asg_t {t : TE} {i : Nat} (hi : i ∉ pn) (m : ∀ σ H Q, XVt X.K da σ H Q → t σ H Q) : ∀ D σ H, XSt X.K pn (dAsg i da) D σ H → tAsg t (gName i) D σ H := by
  intro D σ H ⟨R, ρ, fps, T, g, ⟨h1, h2, h3, h4⟩, E⟩
  refine m σ H _ ⟨R, ρ, fps, g, h1, fun v R1 H1 fps1 fv a r => ?_⟩
  show D.nx (σ.set i (some v)) H1
  cases e : (da ρ).w with
  | al j => rw [e] at h2; exact h2.elim
  | o x =>
    rw [e] at r h4
    obtain ⟨a2, q⟩ := r.frozen a (show canSh _ (.o x) from trivial)
    have r2 : RX X.K (share R1 H1 fv) H1 H fps fps1 σ (da ρ).env (.o (.sh (view (da ρ).env (.o x)))) v [] := ⟨⟨q, rfl⟩, List.nodup_nil, fun _ h => nomatch h⟩
    refine E.nx _ H1 _ _ _ (a2.set h3 r2) (fun j hj => ?_) h4
    have : i ≠ j := fun z => hi (by rw [z]; exact hj)
    exact List.getElem?_set_ne this
theorem xs_setO (i : Nat) {x : Str} {e : Expr} {pos' : Pos} (hN : X.N.Nodup) (he : XV X e da) (hi : X.N[i]? = some x := by rfl) (hp : i ∉ pn := by decide) (hx : Loc X.env.scope x := by first | exact Or.inl rfl | exact Or.inr rfl)
    (hs : swapsWith e (some (.Name x pos')) pos.line X.env = pure false := by rfl) (hf : X.fn x = true ∨ X.env.scope.names.lookup x = some .local := by first | exact .inl rfl | exact .inr rfl) : XS X pn (.Assign [.Name x pos'] e pos) (dAsgO i da) :=
  ps_mono (ps_set hN hi hx he hs hf) (asgO_t hp fun _ _ _ h => h)
theorem xs_set (i : Nat) {x : Str} {e : Expr} {pos' : Pos} (hN : X.N.Nodup) (he : XV X e da) (hi : X.N[i]? = some x := by rfl) (hp : i ∉ pn := by decide) (hx : Loc X.env.scope x := by first | exact Or.inl rfl | exact Or.inr rfl)
    (hs : swapsWith e (some (.Name x pos')) pos.line X.env = pure false := by rfl) (hf : X.fn x = true ∨ X.env.scope.names.lookup x = some .local := by first | exact .inl rfl | exact .inr rfl) : XS X pn (.Assign [.Name x pos'] e pos) (dAsg i da) :=
  ps_mono (ps_set hN hi hx he hs hf) (asg_t hp fun _ _ _ h => h)
/-- a, b = e -/
@[simp ↓] def dAsgT (tg : PyData → Env → Env) (nt : PyData → Prop) (ix : List Nat) (da : Env → Out) : TEnds → Env → Prop := fun T ρ =>
  (da ρ).need ∧ isO (da ρ).w ∧ nt (view (da ρ).env (da ρ).w) ∧ (∀ i ∈ ix, i < (da ρ).env.length) ∧ T.nx (tg (view (da ρ).env (da ρ).w) (da ρ).env)
theorem tg_after {K : PySem.W.Frag} {R H R' H' : Hp} {σ' σ2 : L2.St} {ρ' ρ2 : Env} {fps fps' fps2 : Nat → List Addr} (a : After K R H fps R' H' σ' ρ' fps') (g : G K R' H' σ2 ρ2 fps2) (h : ∀ i, fps2 i = fps' i ∨ fps2 i = []) : After K R H fps R' H' σ2 ρ2 fps2 :=
  ⟨g, a.r, a.fr, a.keep, a.dom, fun i b hb => by
    rcases h i with z | z
    · rw [z] at hb; exact a.own i b hb
    · rw [z] at hb; cases hb⟩
theorem xs_tgt {t : TG} {tgf : PyData → Env → Env} {nt : PyData → Prop} {ix : List Nat} {tg e : Expr} (he : XV X e da) (hg : PG X tg t) (T : TGo X.K t tgf nt ix) (hp : ∀ i ∈ ix, i ∉ pn := by decide)
    (hs : swapsWithSole [tg] e pos.line X.env = pure false := by rfl) (hw : swappedStores [tg] e X.env = pure none := by rfl) (h1 : (assignEach [tg] X.env).map (·.2) = [assign tg X.env] := by rfl) : XS X pn (.Assign [tg] e pos) (dAsgT tgf nt ix da) := by
  refine ps_mono (ps_asg he hg hs hw h1) fun D σ H ⟨R, ρ, fps, TE', g, ⟨n1, n2, n3, n4, n5⟩, E⟩ => ⟨R, ρ, fps, g, n1, fun v R1 H1 fps1 fv a r => ?_⟩
  have cs : canSh (da ρ).env (da ρ).w := by
    cases q : (da ρ).w with
    | al j => rw [q] at n2; exact n2.elim
    | o x => trivial
  obtain ⟨a2, q⟩ := r.frozen a cs
  refine T _ v _ σ H1 _ fps1 _ a2.g q n3 n4 fun σ' fps' g' hf hσ _ => ?_
  exact E.nx _ H1 σ' _ fps' (tg_after a2 g' hf) (fun i hi => hσ i fun z => hp i z hi) n5
/-- a, b = x, y with plain local names -/
@[simp ↓] def dPar (i j : Nat) (dl : Env → Outs) : TEnds → Env → Prop := fun T ρ => (dl ρ).need ∧ (dl ρ).ws.length = 2 ∧ canShs (dl ρ).env (dl ρ).ws ∧ i < (dl ρ).env.length ∧ j < (dl ρ).env.length ∧
  T.nx (((dl ρ).env.set i (some (.sh (view (dl ρ).env ((dl ρ).ws.getD 0 (.al 0)))))).set j (some (.sh (view (dl ρ).env ((dl ρ).ws.getD 1 (.al 0))))))
theorem shRX {K : PySem.W.Frag} {H R' H' : Hp} {σ' : L2.St} {ρ' : Env} {fps fps' : Nat → List Addr} {d : PyData} {v : V} (h : Dp K R' v d) : RX K R' H' H fps fps' σ' ρ' (.o (.sh d)) v [] := ⟨⟨h, rfl⟩, List.nodup_nil, fun _ h => nomatch h⟩
theorem xs_par (i j : Nat) {x y : Str} {a b : Expr} {dl : Env → Outs} {px py pt : Pos} {kt k2 pt2} (hc : X.calm = true) (hN : X.N.Nodup) (ha : XA X [a, b] dl) (hi : X.N[i]? = some x := by rfl) (hj : X.N[j]? = some y := by rfl) (hij : i ≠ j := by decide) (hpi : i ∉ pn := by decide) (hpj : j ∉ pn := by decide)
    (hx : X.env.scope.names.lookup x = some .local := by rfl) (hy : X.env.scope.names.lookup y = some .local := by rfl)
    (hw : swappedStores [.Tuple [.Name x px, .Name y py] kt pt] (.Tuple [a, b] k2 pt2) X.env = pure (some [x, y]) := by rfl)
    (hs : swapsWithSole [.Tuple [.Name x px, .Name y py] kt pt] (.Tuple [a, b] k2 pt2) pos.line X.env = pure false := by rfl) : XS X pn (.Assign [.Tuple [.Name x px, .Name y py] kt pt] (.Tuple [a, b] k2 pt2) pos) (dPar i j dl) := by
  refine ps_mono (ps_par hc hN hi hj hij hx hy ha hw hs) fun D σ H ⟨R, ρ, fps, T, g, ⟨n1, n2, n3, n4, n5, n6⟩, E⟩ => ⟨R, ρ, fps, g, n1, fun vs R1 H1 fps1 fv a1 r => ?_⟩
  obtain ⟨R2, a2, _, q⟩ := r.frozen a1 n3
  generalize (dl ρ).ws = ws at *
  match ws, n2 with
  | [w1, w2], _ =>
    cases q with
    | cons q1 q =>
      cases q with
      | cons q2 q =>
        cases q
        refine ⟨_, _, rfl, ?_⟩
        have a3 := a2.set n4 (shRX (H := H) (fps := fps) q1)
        have a4 := a3.set (i := j) (by rw [List.length_set]; exact n5) (shRX (H := H) (fps := fps) q2)
        refine E.nx _ H1 _ _ _ a4 (fun m hm => ?_) n6
        have z1 : i ≠ m := fun z => hpi (by rw [z]; exact hm)
        have z2 : j ≠ m := fun z => hpj (by rw [z]; exact hm)
        rw [List.getElem?_set_ne z2, List.getElem?_set_ne z1]
/-- xs[k] = e, xs a list that a slot owns -/
@[simp ↓] def dSub (i : Nat) (vk : Env → W) (nk : Env → Prop) (da : Env → Out) : TEnds → Env → Prop := fun T ρ => (da ρ).need ∧ isO (da ρ).w ∧ nk (da ρ).env ∧ isI (view (da ρ).env (vk (da ρ).env)) ∧
  ∃ ds j, (da ρ).env[i]? = some (some (.lst ds)) ∧ ixN ds.length (asI (view (da ρ).env (vk (da ρ).env))) = some j ∧ T.nx ((da ρ).env.set i (some (.lst (ds.set j (view (da ρ).env (da ρ).w)))))
theorem dpAll_set {K : PySem.W.Frag} {R : Hp} {v : V} {d : PyData} (h : Dp K R v d) : ∀ {xs : List V} {ds : List PyData} (j : Nat), DpAll K R xs ds → DpAll K R (xs.set j v) (ds.set j d)
  | _, _, _, .nil => .nil
  | _, _, 0, .cons _ t => .cons h t
  | _, _, j + 1, .cons q t => .cons q (dpAll_set h j t)
theorem xs_sub (i : Nat) {x : Str} {e k : Expr} {vk : Env → W} {nk : Env → Prop} {p1 p2 : Pos} (he : XV X e da) (hk : PV X k vk nk) (ho : PE X (.Name x p1) (tVar i) := by exact pv _)
    (hga : ∀ v, assign (.Subscript (.Name x p1) k p2) X.env v = (do
      let ov ← holding [v] (eval (.Name x p1) X.env)
      let iv ← holding [v, ov] (eval k X.env)
      standAt p2
      holding [v, ov, iv] (setItem ov iv v)
      release [v, ov, iv] []) := by intro _; rfl)
    (hs : swapsWithSole [.Subscript (.Name x p1) k p2] e pos.line X.env = pure false := by rfl) (hw : swappedStores [.Subscript (.Name x p1) k p2] e X.env = pure none := by rfl) (h1 : (assignEach [.Subscript (.Name x p1) k p2] X.env).map (·.2) = [assign (.Subscript (.Name x p1) k p2) X.env] := by rfl) :
    XS X pn (.Assign [.Subscript (.Name x p1) k p2] e pos) (dSub i vk nk da) := by
  have hg : PG X (.Subscript (.Name x p1) k p2) (gSub (tVar i) (PVt X.K vk nk) rSetL) := pg_sub ho hk set_list hga
  refine ps_mono (ps_asg he hg hs hw h1) fun D σ H ⟨R, ρ, fps, T, g, ⟨n1, n2, n3, n4, ds, j, n5, n6, n7⟩, E⟩ => ⟨R, ρ, fps, g, n1, fun v R1 H1 fps1 fv a r => ?_⟩
  have cs : canSh (da ρ).env (da ρ).w := by
    cases q : (da ρ).w with
    | al j => rw [q] at n2; exact n2.elim
    | o x => trivial
  obtain ⟨a2, q⟩ := r.frozen a cs
  obtain ⟨p, xs, e1, hp, hd, _⟩ := slot_lst a2.g n5
  refine ⟨_, e1, _, _, fps1, a2.g, n3, fun u R2 H2 fu p2 ru => ?_⟩
  have a3 := a2.then p2
  obtain ⟨p', xs', e1', hp', hd', _⟩ := slot_lst a3.g n5
  rw [e1] at e1'; cases e1'
  refine ⟨p, xs', _, j, rfl, isI_dp (ru.dp a3.g) n4, hp', by rw [dpAll_len hd']; exact n6, ?_⟩
  exact E.nx _ _ σ _ fps1 (a3.mut n5 e1 (dpAll_set (dp_mono p2.r _ _ q) j hd')) (fun _ _ => rfl) n7
/-- xs.append(e), xs a list that a slot owns -/
@[simp ↓] def dApp (i : Nat) (da : Env → Out) : TEnds → Env → Prop := fun T ρ => (∃ ds, ρ[i]? = some (some (.lst ds))) ∧ (da ρ).need ∧ isO (da ρ).w ∧
  ∃ ds, (da ρ).env[i]? = some (some (.lst ds)) ∧ ds.length < sizeLine ∧ T.nx ((da ρ).env.set i (some (.lst (ds ++ [view (da ρ).env (da ρ).w]))))
theorem xs_app (i : Nat) {x : Str} {e : Expr} {p1 apos cpos : Pos} (he : XV X e da) (ho : PE X (.Name x p1) (tVar i) := by exact pv _)
    (hbase : attributeBase (.Name x p1) "append" X.env (eval (.Name x p1) X.env) = eval (.Name x p1) X.env := by rfl)
    (hfew : ((backTo cpos (starEach [e] X.env)).all (fun x => !x.1) && (backToKw cpos (keywordEach [] X.env)).all (fun x => x.1.isSome) && decide ([e].length + ([] : List Keyword).length + (if ([] : List Keyword).isEmpty then 0 else 1) < 30)) = true := by rfl)
    (hline : (apos.endLine == cpos.line) = true := by rfl) (hs : starEach [e] X.env = (false, eval e X.env) :: starEach [] X.env := by rfl) (hplain : (backTo cpos (starEach [] X.env)).any (·.1) = false := by rfl)
    (hsw : swapsWith (.Call (.Attribute (.Name x p1) "append" apos) [e] [] cpos) none pos.line X.env = pure false := by rfl) :
    XS X pn (.Expr (.Call (.Attribute (.Name x p1) "append" apos) [e] [] cpos) pos) (dApp i da) := by
  refine ps_mono (ps_expr (pe_bm PySem.F.plainAttrs_list PySem.F.slot_list_append PySem.F.type_list_append mt_append ho (pa_cons he pa_nil hs) hbase hfew hline hs hplain) hsw) fun D σ H ⟨R, ρ, fps, T, g, ⟨⟨ds0, n0⟩, n1, n2, ds, n5, n6, n7⟩, E⟩ => ?_
  obtain ⟨p, xs, e1, hp, hd, _⟩ := slot_lst g n0
  refine ⟨_, e1, .inl ⟨rfl, _, SqL.of hp⟩, R, ρ, fps, g, n1, fun v R1 H1 fps1 fv a r => ?_⟩
  have cs : canSh (da ρ).env (da ρ).w := by
    cases q : (da ρ).w with
    | al j => rw [q] at n2; exact n2.elim
    | o x => trivial
  obtain ⟨a2, q⟩ := r.frozen a cs
  obtain ⟨p', xs', e1', hp', hd', _⟩ := slot_lst a2.g n5
  rw [e1] at e1'; cases e1'
  refine ⟨p, xs', v, rfl, rfl, hp', by rw [dpAll_len hd']; exact n6, ?_⟩
  exact E.nx _ _ σ _ fps1 (a2.mut n5 e1 (dpAll_app hd' (.cons q .nil))) (fun _ _ => rfl) n7
/-! ### the rest -/
@[simp ↓] def dRet (da : Env → Out) : TEnds → Env → Prop := fun T ρ => (da ρ).need ∧ T.rt (da ρ).w (da ρ).env
theorem xs_ret {e : Expr} (he : XV X e da) : XS X pn (.Return (some e) pos) (dRet da) :=
  ps_mono (ps_ret he) fun D σ H ⟨R, ρ, fps, T, g, ⟨h1, h2⟩, E⟩ => ⟨R, ρ, fps, g, h1, fun v R1 H1 fps1 fv a r => E.rt R1 H1 σ _ fps1 _ v fv a (fun _ _ => rfl) r h2⟩
@[simp ↓] def dIf (tc : Env → OutB) (d1 d2 : TEnds → Env → Prop) : TEnds → Env → Prop := fun T ρ => (tc ρ).need ∧ if (tc ρ).b = true then d1 T (tc ρ).env else d2 T (tc ρ).env
theorem xs_if {c : Expr} {a b : List Stmt} {tc : Env → OutB} (hc : XT X c tc) (ha : XSs X pn a d1) (hb : XSs X pn b d2) : XS X pn (.If c a b pos) (dIf tc d1 d2) := by
  refine ps_mono (ps_if hc ha hb) fun D σ H ⟨R, ρ, fps, T, g, ⟨h1, h2⟩, E⟩ => ⟨R, ρ, fps, g, h1, fun R1 H1 fps1 a => ?_⟩
  cases e : (tc ρ).b with
  | true => rw [e, if_pos rfl] at h2; exact iteT ⟨R1, _, fps1, T, a.g, h2, E.later a fun _ _ => rfl⟩
  | false => rw [e, if_neg Bool.false_ne_true] at h2; exact iteF ⟨R1, _, fps1, T, a.g, h2, E.later a fun _ _ => rfl⟩
theorem xs_pass : XS X pn (.Pass pos) (fun T ρ => T.nx ρ) := ps_mono ps_pass fun D σ H ⟨R, ρ, fps, T, g, h, E⟩ => E.nx R H σ ρ fps (.refl g) (fun _ _ => rfl) h
theorem xs_break : XS X pn (.Break pos) (fun T ρ => T.bk ρ) := ps_mono ps_break fun D σ H ⟨R, ρ, fps, T, g, h, E⟩ => E.bk R H σ ρ fps (.refl g) (fun _ _ => rfl) h
theorem xs_cont : XS X pn (.Continue pos) (fun T ρ => T.ct ρ) := ps_mono ps_continue fun D σ H ⟨R, ρ, fps, T, g, h, E⟩ => E.ct R H σ ρ fps (.refl g) (fun _ _ => rfl) h
theorem xs_never : XS X pn st (fun _ _ => False) := ps_mono ps_never fun D σ H ⟨R, ρ, fps, T, g, h, E⟩ => h
/-- what simp is not to look into -/
inductive Hold {α : Sort _} (x : α) : Type where
  | mk
/-- a for loop, by what holds ahead of each turn -/
def dFor (di : Env → OutI) (tg : PyData → Env → Env) (nt : PyData → Prop) (ix : List Nat) (body : TEnds → Env → Prop) : TEnds → Env → Prop := fun T ρ =>
  (di ρ).need ∧ ∃ I : Nat → Env → Prop, I 0 (di ρ).env ∧ (∀ i d ρ', (di ρ).ds[i]? = some d → I i ρ' → nt d ∧ (∀ j ∈ ix, j < ρ'.length) ∧ body { nx := I (i + 1), rt := T.rt, bk := T.nx, ct := I (i + 1) } (tg d ρ')) ∧ ∀ ρ', I (di ρ).ds.length ρ' → T.nx ρ'
theorem xs_for {tg iter : Expr} {body : List Stmt} {di : Env → OutI} {t : TG} {tgf : PyData → Env → Env} {nt : PyData → Prop} {ix : List Nat} (hp : PassesOwn (model X.prog X.w) X.A X.env X.xe) (hc : X.calm = true) (hi : XI X tg iter di) (hg : PG X tg t) (TG' : TGo X.K t tgf nt ix) (hb : XSs X pn body d1)
    (hix : ∀ i ∈ ix, i ∉ pn := by decide) (hs : ∀ x, foldedSetIterable iter X.env x = pure x := by intro _; rfl) : XS X pn (.For tg iter body [] pos) (dFor di tgf nt ix d1) := by
  refine ps_mono (ps_for hp hc hi hg hb hs) fun D σ H ⟨R, ρ, fps, T, g, ⟨h1, I, h2, hstep, hend⟩, E⟩ => ⟨R, ρ, fps, g, h1, fun J R1 H1 fps1 a1 good => ?_⟩
  refine ⟨fun i m σ2 H2 => m = (di ρ).ds.length - i ∧ i ≤ (di ρ).ds.length ∧ ∃ R2 ρ2 fps2, After X.K R H fps R2 H2 σ2 ρ2 fps2 ∧ Pin pn σ σ2 ∧ Same R1 R2 ∧ I i ρ2,
    ⟨(di ρ).ds.length, by omega, Nat.zero_le _, R1, _, fps1, a1, fun _ _ => rfl, Same.refl _, h2⟩, ?_⟩
  rintro i m σ2 H2 ⟨rfl, hi', R2, ρ2, fps2, a2, p2, s2, hw⟩
  obtain ⟨gd, gs⟩ := good R2 H2 i s2 a2.g.sub
  by_cases hlt : i < (di ρ).ds.length
  · obtain ⟨go, yl⟩ := gd hlt
    refine .inr ⟨go, fun σ3 H3 => ∃ R3 ρ3 fps3, After X.K R H fps R3 H3 σ3 ρ3 fps3 ∧ Pin pn σ σ3 ∧ Same R1 R3 ∧ I (i + 1) ρ3,
      fun σ3 H3 h3 => ⟨(di ρ).ds.length - (i + 1), by omega, rfl, hlt, h3⟩, fun x H3 hy => ?_⟩
    obtain ⟨R3, p3, d, ed, hd⟩ := yl x H3 hy
    obtain ⟨w1, w2, w3⟩ := hstep i d ρ2 ed hw
    have a3 := a2.then p3
    refine TG' d x R3 σ2 H3 ρ2 fps2 _ a3.g hd w1 w2 fun σ4 fps4 g4 hf hσ hσl => ?_
    have a4 : After X.K R H fps R3 H3 σ4 (tgf d ρ2) fps4 := tg_after a3 g4 hf
    have p4 : Pin pn σ σ4 := fun j hj => (hσ j fun z => hix j z hj).trans (p2 j hj)
    have E4 := E.later a4 p4
    refine ⟨R3, _, fps4, _, g4, w3, ⟨fun R5 H5 σ5 ρ5 fps5 a5 p5 hn => ?_, E4.rt, E4.nx, fun R5 H5 σ5 ρ5 fps5 a5 p5 hn => ?_⟩⟩
    · exact ⟨R5, ρ5, fps5, a4.trans a5, fun j hj => (p5 j hj).trans (p4 j hj), s2.trans (p3.r.trans a5.r), hn⟩
    · exact ⟨R5, ρ5, fps5, a4.trans a5, fun j hj => (p5 j hj).trans (p4 j hj), s2.trans (p3.r.trans a5.r), hn⟩
  · have ei : i = (di ρ).ds.length := by omega
    rw [ei] at hw
    exact .inl ⟨gs (by omega), E.nx R2 H2 σ2 ρ2 fps2 a2 p2 (hend _ hw)⟩
/-- a while loop, by what holds ahead of each turn, with a count that falls -/
def dWh (tc : Env → OutB) (body : TEnds → Env → Prop) : TEnds → Env → Prop := fun T ρ => ∃ (I : Nat → Env → Prop) (n : Nat), I n ρ ∧
  ∀ n ρ', I n ρ' → (tc ρ').need ∧ ((tc ρ').b = true → body { nx := fun ρ2 => ∃ m, m < n ∧ I m ρ2, rt := T.rt, bk := T.nx, ct := fun ρ2 => ∃ m, m < n ∧ I m ρ2 } (tc ρ').env) ∧ ((tc ρ').b = false → T.nx (tc ρ').env)
theorem xs_while {c : Expr} {body : List Stmt} {tc : Env → OutB} (hp : PassesOwn (model X.prog X.w) X.A X.env X.xe) (hc : XT X c tc) (hb : XSs X pn body d1) : XS X pn (.While c body [] pos) (dWh tc d1) := by
  refine ps_mono (ps_while hp hc hb) fun D σ H ⟨R, ρ, fps, T, g, ⟨I, n, hn, hstep⟩, E⟩ => ?_
  refine ⟨fun m σ2 H2 => ∃ R2 ρ2 fps2, After X.K R H fps R2 H2 σ2 ρ2 fps2 ∧ Pin pn σ σ2 ∧ I m ρ2, ⟨n, R, ρ, fps, .refl g, fun _ _ => rfl, hn⟩, ?_⟩
  rintro m σ2 H2 ⟨R2, ρ2, fps2, a2, p2, hw⟩
  obtain ⟨w1, w2, w3⟩ := hstep m ρ2 hw
  refine ⟨R2, ρ2, fps2, a2.g, w1, fun R3 H3 fps3 a3 => ?_⟩
  have a4 := a2.trans a3
  cases e : (tc ρ2).b with
  | false => exact iteF (E.nx R3 H3 σ2 _ fps3 a4 p2 (w3 e))
  | true =>
    have E4 := E.later a4 p2
    refine iteT ⟨fun σ5 H5 => ∃ m2 < m, ∃ R5 ρ5 fps5, After X.K R H fps R5 H5 σ5 ρ5 fps5 ∧ Pin pn σ σ5 ∧ I m2 ρ5, fun σ5 H5 ⟨m2, l, h5⟩ => ⟨m2, l, h5⟩, ?_⟩
    refine ⟨R3, _, fps3, _, a3.g, w2 e, ⟨fun R5 H5 σ5 ρ5 fps5 a5 p5 hn => ?_, E4.rt, E4.nx, fun R5 H5 σ5 ρ5 fps5 a5 p5 hn => ?_⟩⟩
    · obtain ⟨m2, l, hn⟩ := hn
      exact ⟨m2, l, R5, ρ5, fps5, a4.trans a5, fun j hj => (p5 j hj).trans (p2 j hj), hn⟩
    · obtain ⟨m2, l, hn⟩ := hn
      exact ⟨m2, l, R5, ρ5, fps5, a4.trans a5, fun j hj => (p5 j hj).trans (p2 j hj), hn⟩
end
/-! ## the plain side, one statement after the other -/
section
variable {d1 d2 : TEnds → Env → Prop} {T : TEnds} {ρ : Env}
theorem seq_i (h : ∀ N, N = d2 T → d1 { nx := N, rt := T.rt, bk := T.bk, ct := T.ct } ρ) : dSeq d1 d2 T ρ := h _ rfl
theorem if_i {tc : Env → OutB} (h0 : (tc ρ).need) (h1 : (tc ρ).b = true → d1 T (tc ρ).env) (h2 : (tc ρ).b = false → d2 T (tc ρ).env) : dIf tc d1 d2 T ρ := by
  refine ⟨h0, ?_⟩
  cases e : (tc ρ).b with
  | true => rw [if_pos rfl]; exact h1 e
  | false => rw [if_neg Bool.false_ne_true]; exact h2 e
theorem for_i {α : Type} {di : Env → OutI} {tg : PyData → Env → Env} {nt : PyData → Prop} {ix : List Nat} {body : TEnds → Env → Prop} (xs : List α) (f : α → PyData) (ρ1 : Env) (I : Nat → Env → Prop) (hd : di ρ = ⟨xs.map f, ρ1, (di ρ).need⟩) (h0 : (di ρ).need) (h1 : I 0 ρ1)
    (h2 : ∀ i x ρ', xs[i]? = some x → I i ρ' → nt (f x) ∧ (∀ j ∈ ix, j < ρ'.length) ∧ body { nx := I (i + 1), rt := T.rt, bk := T.nx, ct := I (i + 1) } (tg (f x) ρ')) (h3 : ∀ ρ', I xs.length ρ' → T.nx ρ') : dFor di tg nt ix body T ρ := by
  have e1 : (di ρ).ds = xs.map f := by rw [hd]
  have e2 : (di ρ).env = ρ1 := by rw [hd]
  refine ⟨h0, I, by rw [e2]; exact h1, fun i d ρ' e hI => ?_, fun ρ' h => h3 ρ' ?_⟩
  · rw [e1, List.getElem?_map] at e
    cases q : xs[i]? with
    | none => rw [q] at e; cases e
    | some x => rw [q] at e; cases e; exact h2 i x ρ' q hI
  · rw [e1, List.length_map] at h; exact h
theorem wh_i {tc : Env → OutB} {body : TEnds → Env → Prop} (I : Nat → Env → Prop) (n : Nat) (h1 : I n ρ)
    (h2 : ∀ n ρ', I n ρ' → (tc ρ').need ∧ ((tc ρ').b = true → body { nx := fun ρ2 => ∃ m, m < n ∧ I m ρ2, rt := T.rt, bk := T.nx, ct := fun ρ2 => ∃ m, m < n ∧ I m ρ2 } (tc ρ').env) ∧ ((tc ρ').b = false → T.nx (tc ρ').env)) : dWh tc body T ρ := ⟨I, n, h1, h2⟩
end
end TL
set_option linter.all false
set_option maxRecDepth 100000
set_option maxHeartbeats 1000000
set_option autoImplicit false
namespace TL
open PySem PySem.Spec PyProof.Rows L2
/-! ## name = [..] -/
section
variable {X : Cx} {pn : List Nat}
theorem pv_xv {K : PySem.W.Frag} {va : Env → W} {na : Env → Prop} {t : TE} (m : ∀ σ H Q, PVt K va na σ H Q → t σ H Q) : ∀ σ H Q, XVt K (dPure va na) σ H Q → t σ H Q :=
  fun σ H Q ⟨R, ρ, fps, g, hn, k⟩ => m σ H Q ⟨R, ρ, fps, g, hn, fun v R' H' fv p r => k v R' H' fps fv (.pure g p) (r.rx g)⟩
theorem xs_setLc (i : Nat) {y : Str} {py : Pos} {tg elt iter : Expr} {ifs : List Expr} {scope : Scope} {own : List (Str × Nat)} {pos spos : Pos} {ds : Env → List PyData} {ni : Env → Prop} {t : TG} {tgf : PyData → Env → Env} {nt : PyData → Prop} {ix : List Nat} {c : Env → Bool} {ct : Env → Prop} {ve : Env → W} {ne : Env → Prop}
    (hc : X.calm = true) (hN : X.N.Nodup) (ok : BlkOk X.N X.env.scope scope own) (hi : PVI X tg iter ds ni) (T : TGo X.K t tgf nt ix) (hix : ix = own.map (·.2))
    (hg : ∀ (s : Shared) (H : Hp) (C : Addr) (cl : List (Str × Addr)) (fp : List Addr), PG (X.blk s H scope (compEnvC scope cl C X.env) fp) tg t)
    (ht : ∀ (s : Shared) (H : Hp) (C : Addr) (cl : List (Str × Addr)) (fp : List Addr), PTs (X.blk s H scope (compEnvC scope cl C X.env) fp) ifs (PTt X.K c ct))
    (he : ∀ (s : Shared) (H : Hp) (C : Addr) (cl : List (Str × Addr)) (fp : List Addr), PV (X.blk s H scope (compEnvC scope cl C X.env) fp) elt ve ne)
    (hsw : swapsWith (.ListComp elt [⟨tg, iter, ifs, 0⟩] scope pos) (some (.Name y py)) spos.line X.env = pure true)
    (hy : X.N[i]? = some y := by rfl) (hyl : X.env.scope.names.lookup y = some .local := by rfl) (hp : i ∉ pn := by decide) (hs : ∀ x, foldedSetIterable iter X.env x = pure x := by intro _; rfl) :
    XS X pn (.Assign [.Name y py] (.ListComp elt [⟨tg, iter, ifs, 0⟩] scope pos) spos) (dAsg i (dPure (fun ρ => .o (.lst (compD ix tgf c ve ρ (ds ρ)))) (fun ρ => ni ρ ∧ compN ix tgf nt ix c ct ve ne ρ (ds ρ)))) := by
  subst hix
  exact ps_mono (ps_setLc (te := PVt X.K ve ne) hc hN hy hyl hsw hi ok hg ht (fun s H C cl fp => he s H C cl fp) hs) (asg_t hp (pv_xv (comp_t T)))
/-! ## comprehensions that change what is owned -/
structure OutL where
  ds : List PyData
  env : Env
  need : Prop
def compX (ix : List Nat) (tg : PyData → Env → Env) (nt : PyData → Prop) (e : Env → Out) (he : Hold e) : List PyData → Env → OutL
  | [], ρ => ⟨[], ρ, True⟩
  | d :: ds, ρ => ⟨view (e (tg d ρ)).env (e (tg d ρ)).w :: (compX ix tg nt e he ds (wipeE (e (tg d ρ)).env ix)).ds, (compX ix tg nt e he ds (wipeE (e (tg d ρ)).env ix)).env,
      nt d ∧ (∀ i ∈ ix, i < ρ.length ∧ i < (e (tg d ρ)).env.length) ∧ (e (tg d ρ)).need ∧ isO (e (tg d ρ)).w ∧ (compX ix tg nt e he ds (wipeE (e (tg d ρ)).env ix)).need⟩
def dComp (ix : List Nat) (tg : PyData → Env → Env) (nt : PyData → Prop) (di : Env → OutI) (e : Env → Out) : Env → Out := fun ρ =>
  ⟨.o (.lst (compX ix tg nt e .mk (di ρ).ds (di ρ).env).ds), (compX ix tg nt e .mk (di ρ).ds (di ρ).env).env,
    (di ρ).need ∧ (∀ i ∈ ix, (di ρ).env[i]? = some none) ∧ (di ρ).ds.length < sizeLine ∧ (compX ix tg nt e .mk (di ρ).ds (di ρ).env).need⟩
theorem wipeE_id {ρ : Env} {vs : List Nat} (h : ∀ i ∈ vs, ρ[i]? = some none) : wipeE ρ vs = ρ := by
  apply List.ext_getElem?
  intro j
  by_cases hj : j ∈ vs
  · rw [h j hj]
    have hl : j < (wipeE ρ vs).length := by rw [wipeE_len]; exact (List.getElem?_eq_some_iff.mp (h j hj)).1
    cases e : (wipeE ρ vs)[j]? with
    | none => rw [List.getElem?_eq_none_iff] at e; omega
    | some y =>
      cases y with
      | none => rfl
      | some x => exact absurd e (wipeE_in hj)
  · exact wipeE_out hj
theorem wipeE_none {ρ : Env} {vs : List Nat} {i : Nat} (h : i ∈ vs) (hl : i < ρ.length) : (wipeE ρ vs)[i]? = some none := by
  have hl' : i < (wipeE ρ vs).length := by rw [wipeE_len]; exact hl
  cases e : (wipeE ρ vs)[i]? with
  | none => rw [List.getElem?_eq_none_iff] at e; omega
  | some y =>
    cases y with
    | none => rfl
    | some x => exact absurd e (wipeE_in h)
section
variable {K : PySem.W.Frag} {R H R' H' R2 H2 : Hp} {σ σ' : L2.St} {ρ ρ' : Env} {fps fps' : Nat → List Addr}
theorem G.unwipe {vs : List Nat} (g : G K R H (L2.wipe σ vs) ρ fps) (h : ∀ i ∈ vs, ρ[i]? = some none) : G K R H σ ρ fps :=
  ⟨g.sub, fun i x e => by
    have hi : i ∉ vs := fun z => by rw [h i z] at e; cases e
    obtain ⟨v, e1, q⟩ := g.rep i x e
    rw [L2.wipe_out hi] at e1
    exact ⟨v, e1, q⟩, g.nd, g.dj, g.off, g.on, by rw [← g.len, L2.wipe_length]⟩
theorem After.with (a : After K R H fps R' H' σ ρ fps') (g : G K R' H' σ' ρ' fps') : After K R H fps R' H' σ' ρ' fps' := ⟨g, a.r, a.fr, a.keep, a.dom, a.own⟩
theorem After.withF {fps2 : Nat → List Addr} (a : After K R H fps R' H' σ ρ fps') (g : G K R' H' σ' ρ' fps2) (h : ∀ i, fps2 i = fps' i ∨ fps2 i = []) : After K R H fps R' H' σ' ρ' fps2 :=
  ⟨g, a.r, a.fr, a.keep, a.dom, fun i b hb => by
    rcases h i with z | z
    · rw [z] at hb; exact a.own i b hb
    · rw [z] at hb; cases hb⟩
/-- a new object, not owned by a slot, not shared, is written -/
theorem After.upd {p : Addr} {o : HO} (a : After K R H fps R' H' σ' ρ' fps') (hp : H p = none) (hR : R' p = none) (hf : ∀ i, p ∉ fps' i) : After K R H fps R' (L2.upd H' p o) σ' ρ' fps' := by
  refine ⟨⟨fun b u z => ?_, fun i x e => ?_, a.g.nd, a.g.dj, a.g.off, fun i b hb => ?_, a.g.len⟩, a.r, a.fr, fun b u hn hb => ?_, fun b hb => ?_, a.own⟩
  · rw [upd_ne (fun w => by subst w; rw [hR] at z; cases z)]; exact a.g.sub b u z
  · obtain ⟨v, e1, q⟩ := a.g.rep i x e
    exact ⟨v, e1, rep_mono (Same.refl _) x v _ q fun b u hb z => by rw [upd_ne (fun w => hf i (by rw [← w]; exact hb))]; exact z⟩
  · rw [upd_ne (fun w => hf i (by rw [← w]; exact hb))]; exact a.g.on i b hb
  · rw [upd_ne (fun w => by subst w; rw [hp] at hb; cases hb)]; exact a.keep b u hn hb
  · by_cases w : b = p
    · rw [w, upd_same] at hb; cases hb
    · rw [upd_ne w] at hb; exact a.dom b hb
end
theorem compx_t {di : Env → OutI} {t : TG} {tgf : PyData → Env → Env} {nt : PyData → Prop} {ix : List Nat} {e : Env → Out} (T : TGo X.K t tgf nt ix) :
    ∀ (σ : L2.St) (H : Hp) (Q : VK), XVt X.K (dComp ix tgf nt di e) σ H Q → tLc (XIt X.K di) t tYes (XVt X.K e) ix σ H Q := by
  intro σ H Q ⟨R, ρ, fps, g, ⟨h1, hun, hlen, hneed⟩, k⟩
  refine ⟨R, ρ, fps, g, h1, fun J R1 H1 fps1 a1 good D hD => ?_⟩
  have hDH : H D = none := a1.dom D hD
  have wk : ∀ i b, b ∈ (if i ∈ ix then [] else fps1 i) → ∃ j, b ∈ fps1 j := fun i b hb => by
    by_cases hi : i ∈ ix
    · rw [if_pos hi] at hb; cases hb
    · rw [if_neg hi] at hb; exact ⟨i, hb⟩
  -- the state at a turn, from the walk's start
  let St0 : Nat → Hp → Prop := fun i H2 => ∃ R2 ρ2 fps2 acc rs, After X.K R H fps R2 H2 (L2.wipe σ ix) ρ2 fps2 ∧ Same R1 R2 ∧ (∀ j ∈ ix, ρ2[j]? = some none) ∧ R2 D = none ∧ H2 D = some (.lst acc) ∧ (∀ j, D ∉ fps2 j) ∧ DpAll X.K R2 acc rs ∧ acc.length = i ∧
    (compX ix tgf nt e .mk (di ρ).ds (di ρ).env).ds = rs ++ (compX ix tgf nt e .mk ((di ρ).ds.drop i) ρ2).ds ∧ (compX ix tgf nt e .mk (di ρ).ds (di ρ).env).env = (compX ix tgf nt e .mk ((di ρ).ds.drop i) ρ2).env ∧ (compX ix tgf nt e .mk ((di ρ).ds.drop i) ρ2).need
  have start : St0 0 (L2.upd H1 D (.lst [])) := by
    have g0 := a1.g.wipe ix
    rw [wipeE_id hun] at g0
    have a2 : After X.K R H fps R1 H1 (L2.wipe σ ix) (di ρ).env (fun i => if i ∈ ix then [] else fps1 i) := a1.withF g0 fun i => by
      by_cases hi : i ∈ ix
      · right; exact if_pos hi
      · left; exact if_neg hi
    have nD : ∀ j, D ∉ (fun i => if i ∈ ix then [] else fps1 i) j := fun j z => a2.g.on j D z hD
    exact ⟨R1, _, _, [], [], a2.upd hDH (a1.g.sub.free hD) nD, Same.refl _, hun, a1.g.sub.free hD, upd_same, nD, .nil, rfl, rfl, rfl, hneed⟩
  refine ⟨fun i m H2 => m = (di ρ).ds.length - i ∧ i ≤ (di ρ).ds.length ∧ St0 i H2, ⟨_, rfl, Nat.zero_le _, start⟩, ?_⟩
  rintro i m H2 ⟨rfl, hi', R2, ρ2, fps2, acc, rs, a2, s12, un2, rD, hDl, fD, hacc, hal, e1, e2, nd2⟩
  obtain ⟨gd, gs⟩ := good R2 H2 i s12 a2.g.sub
  by_cases hlt : i < (di ρ).ds.length
  · refine .inr ⟨(gd hlt).1, St0 (i + 1), fun H3 h3 => ⟨(di ρ).ds.length - (i + 1), by omega, rfl, hlt, h3⟩, fun x H3 hy => ?_⟩
    obtain ⟨R3, p3, d, ed, hd⟩ := (gd hlt).2 x H3 hy
    have e0 : (di ρ).ds.drop i = d :: (di ρ).ds.drop (i + 1) := by
      obtain ⟨hlt', e'⟩ := List.getElem?_eq_some_iff.mp ed
      rw [← e', List.drop_eq_getElem_cons hlt']
    rw [e0] at e1 e2 nd2
    obtain ⟨n1, n2, n3, n4, n5⟩ := nd2
    have a3 := a2.then p3
    have hD3 : H3 D = some (.lst acc) := p3.h D _ hDl
    have rD3 : R3 D = none := by
      cases q : R3 D with
      | none => rfl
      | some o =>
        rcases p3.fr D (by rw [q]; simp) with z | z
        · exact absurd rD z
        · rw [hDl] at z; cases z
    refine T d x R3 (L2.wipe σ ix) H3 ρ2 fps2 _ a3.g hd n1 (fun j hj => (n2 j hj).1) fun σ' fps' g4 hf hσ hσl => ⟨?_, iteT (B := St0 (i + 1) H3) ?_⟩
    · rw [wipe_eq (τ := L2.wipe σ ix) hσl hσ, wipe_wipe]
    · refine ⟨R3, _, fps', g4, n3, fun y R5 H5 fps5 fy a5 r5 => ?_⟩
      have fD' : ∀ j, D ∉ fps' j := fun j z => by
        rcases hf j with w | w
        · rw [w] at z; exact fD j z
        · rw [w] at z; cases z
      have a4 : After X.K R H fps R3 H3 σ' (tgf d ρ2) fps' := a3.withF g4 hf
      have cs : canSh (e (tgf d ρ2)).env (e (tgf d ρ2)).w := by
        cases q : (e (tgf d ρ2)).w with
        | al j => rw [q] at n4; exact n4.elim
        | o z => trivial
      obtain ⟨a6, hy6⟩ := r5.frozen a5 cs
      have Dfy : D ∉ fy := fun z => by
        rcases (r5.src D z).2.2 with w | ⟨j, w⟩
        · rw [hD3] at w; cases w
        · exact fD' j w
      have hD5 : H5 D = some (.lst acc) := a5.keep D _ fD' hD3
      have rD6 : share R5 H5 fy D = none := by
        rw [share_out Dfy]
        cases q : R5 D with
        | none => rfl
        | some o =>
          rcases a5.fr D (by rw [q]; simp) with z | z | ⟨j, z⟩
          · exact absurd rD3 z
          · rw [hD3] at z; cases z
          · exact absurd z (fD' j)
      have fD5 : ∀ j, D ∉ fps5 j := fun j z => by
        rcases a5.own j D z with ⟨l, w⟩ | w
        · exact fD' l w
        · rw [hD3] at w; cases w
      have a7 := a4.trans a6
      have g7 := a7.g.wipe ix
      have ew : L2.wipe σ' ix = L2.wipe σ ix := by rw [wipe_eq (τ := L2.wipe σ ix) hσl hσ, wipe_wipe]
      rw [ew] at g7
      have a8 : After X.K R H fps (share R5 H5 fy) H5 (L2.wipe σ ix) (wipeE (e (tgf d ρ2)).env ix) (fun i => if i ∈ ix then [] else fps5 i) := a7.withF g7 fun j => by
        by_cases hj : j ∈ ix
        · right; exact if_pos hj
        · left; exact if_neg hj
      have fD8 : ∀ j, D ∉ (fun i => if i ∈ ix then [] else fps5 i) j := fun j z => by
        have z' : D ∈ (if j ∈ ix then [] else fps5 j) := z
        by_cases hj : j ∈ ix
        · rw [if_pos hj] at z'; cases z'
        · rw [if_neg hj] at z'; exact fD5 j z'
      refine ⟨acc, hD5, by omega, ?_⟩
      refine ⟨share R5 H5 fy, _, _, acc ++ [y], rs ++ [view (e (tgf d ρ2)).env (e (tgf d ρ2)).w], a8.upd hDH rD6 fD8, s12.trans (p3.r.trans a6.r), fun j hj => wipeE_none hj (n2 j hj).2, rD6, upd_same, fD8, ?_, ?_, ?_, e2, n5⟩
      · exact dpAll_app (dpAll_mono (p3.r.trans a6.r) _ _ hacc) (.cons hy6 .nil)
      · rw [List.length_append, List.length_singleton, hal]
      · rw [e1, List.append_assoc]; rfl
  · have ei : i = (di ρ).ds.length := by omega
    subst ei
    rw [List.drop_length] at e1 e2
    have e1' : (compX ix tgf nt e .mk (di ρ).ds (di ρ).env).ds = rs := by rw [e1]; exact List.append_nil rs
    have e2' : (compX ix tgf nt e .mk (di ρ).ds (di ρ).env).env = ρ2 := e2
    refine .inl ⟨gs (Nat.le_refl _), k _ R2 H2 fps2 [D] ?_ ?_⟩
    · show After X.K R H fps R2 H2 σ (compX ix tgf nt e .mk (di ρ).ds (di ρ).env).env fps2
      rw [e2']; exact a2.with (a2.g.unwipe un2)
    · refine ⟨⟨D, acc, rfl, hDl, ?_, rfl⟩, by simp, fun b hb => ?_⟩
      · rw [e1']; exact hacc
      · have eb : b = D := by simpa using hb
        subst eb
        exact ⟨rD, fD, .inr hDH⟩
theorem xv_comp {tg elt iter : Expr} {scope : Scope} {own : List (Str × Nat)} {pos : Pos} {di : Env → OutI} {t : TG} {tgf : PyData → Env → Env} {nt : PyData → Prop} {ix : List Nat} {e : Env → Out}
    (hc : X.calm = true) (hN : X.N.Nodup) (ok : BlkOk X.N X.env.scope scope own) (hi : XI X tg iter di) (T : TGo X.K t tgf nt ix) (hix : ix = own.map (·.2))
    (hg : ∀ (s : Shared) (H : Hp) (C : Addr) (cl : List (Str × Addr)) (fp : List Addr), PG (X.blk s H scope (compEnvC scope cl C X.env) fp) tg t)
    (he : ∀ (s : Shared) (H : Hp) (C : Addr) (cl : List (Str × Addr)) (fp : List Addr), XV (X.blk s H scope (compEnvC scope cl C X.env) fp) elt e) (hs : ∀ x, foldedSetIterable iter X.env x = pure x := by intro _; rfl) :
    XV X (.ListComp elt [⟨tg, iter, [], 0⟩] scope pos) (dComp ix tgf nt di e) := by
  subst hix
  exact pe_mono (pe_lc (te := XVt X.K e) hc hN hi ok hg (fun _ _ _ _ _ => pts_nil) (fun s H C cl fp => he s H C cl fp) hs) (compx_t T)
end
end TL
set_option linter.all false
set_option maxRecDepth 100000
set_option maxHeartbeats 1000000
set_option autoImplicit false
namespace TL
open PySem PySem.Spec PyProof.Rows L2
/-! ## promises -/
structure FOut where
  o : O
  need : Prop
def spP (K : PySem.W.Frag) (F : List PyData → FOut) (n : Nat) : Sp := fun vs H Q _ => ∃ R ds, Same R H ∧ DpAll K R vs ds ∧ ds.length = n ∧ (F ds).need ∧ ∀ v R' H' fv, PStep R H R' H' → RO K R' H' H (F ds).o v fv → Q v H'
structure BOut where
  o : O
  b : O
  need : Prop
def spB (K : PySem.W.Frag) (F : O → List PyData → BOut) (n : Nat) : Sp := fun vs H Q _ => ∃ R b v0 vs' ds fps, vs = v0 :: vs' ∧ G K R H [some v0] [some b] fps ∧ DpAll K R vs' ds ∧ ds.length + 1 = n ∧ (F b ds).need ∧
  ∀ v R' H' fps' fv, After K R H fps R' H' [some v0] [some (F b ds).b] fps' → RX K R' H' H fps fps' [some v0] [some (F b ds).b] (.o (F b ds).o) v fv → Q v H'
/-- a def as the top left it -/
def HD (K : PySem.W.Frag) (mg : Str → Option Value) (x : Str) (ps : List Str) (st : Stmt) (f : Addr) (fd : FuncData) : Prop := mg x = some (.ref f) ∧ L2.Fun K x x st f fd ∧ Binds K fd ps []
structure FnP (P : Program) (w : World) (K : PySem.W.Frag) (mg : Str → Option Value) (base : Heap) (k : Nat) (x : Str) (ps : List Str) (f : Addr) (fd : FuncData) (sp : Sp) : Prop where
  at_ : mg x = some (.ref f)
  kp : PySem.W.keepIn K (.ref f) = true
  bi : Binds K fd ps []
  ok : FnG P w K mg base CX0 k f fd ps sp
theorem FnP.up {P : Program} {w : World} {K : PySem.W.Frag} {mg : Str → Option Value} {base : Heap} {j k : Nat} {x : Str} {ps : List Str} {f : Addr} {fd : FuncData} {sp : Sp} (h : FnP P w K mg base j x ps f fd sp) (l : j ≤ k) : FnP P w K mg base k x ps f fd sp := ⟨h.at_, h.kp, h.bi, h.ok.up l⟩
@[simp] def envP (N : List Str) (ds : List PyData) : Env := ds.map (fun d => some (.sh d)) ++ List.replicate (N.length - ds.length) none
@[simp] def envB (N : List Str) (b : O) (ds : List PyData) : Env := some b :: (ds.map (fun d => some (.sh d)) ++ List.replicate (N.length - (ds.length + 1)) none)
/-- what a return hands out -/
@[simp] def resO (ρ : Env) : W → Option O
  | .o x => some x
  | .al i => match ρ[i]? with
    | some y => y
    | none => none
@[simp] def endP (F : FOut) : TEnds := { nx := fun _ => F.o = .sh .none, rt := fun w ρ => resO ρ w = some F.o }
@[simp] def endB (F : BOut) : TEnds := { nx := fun ρ => F.o = .sh .none ∧ ρ[0]? = some (some F.b), rt := fun w ρ => resO ρ w = some F.o ∧ ρ[0]? = some (some F.b) ∧ w ≠ .al 0 }
section
variable {K : PySem.W.Frag} {R H : Hp}
theorem startP : ∀ {vs : List V} {ds : List PyData} (n : Nat) (s : Same R H), DpAll K R vs ds → G K R H (vs.map some ++ List.replicate n none) (ds.map (fun d => some (.sh d)) ++ List.replicate n none) (fun _ => []) := by
  intro vs ds n s h
  have hl := dpAll_len h
  refine ⟨s, fun i x e => ?_, fun _ => List.nodup_nil, fun _ _ _ _ z => (nomatch z), fun _ _ z => (nomatch z), fun _ _ z => (nomatch z), by simp [hl]⟩
  by_cases hi : i < ds.length
  · rw [List.getElem?_append_left (by simpa using hi), List.getElem?_map] at e
    cases ed : ds[i]? with
    | none => rw [ed] at e; cases e
    | some d =>
      rw [ed] at e
      have e' : O.sh d = x := by simpa using e
      subst e'
      obtain ⟨v, ev, q⟩ := dpAll_get' h ed
      exact ⟨v, by rw [List.getElem?_append_left (by simp; omega), List.getElem?_map, ev]; rfl, q, rfl⟩
  · rw [List.getElem?_append_right (by simpa using hi), List.getElem?_replicate] at e
    split at e <;> cases e
theorem startB {b : O} {v0 : V} {fps : Nat → List Addr} {vs : List V} {ds : List PyData} (n : Nat) (g : G K R H [some v0] [some b] fps) (h : DpAll K R vs ds) :
    G K R H (some v0 :: (vs.map some ++ List.replicate n none)) (some b :: (ds.map (fun d => some (.sh d)) ++ List.replicate n none)) (fun i => if i = 0 then fps 0 else []) := by
  have g1 := startP n g.sub h
  obtain ⟨v, e0, r0⟩ := g.rep 0 b rfl
  have ev : v0 = v := by simpa using e0
  subst ev
  refine ⟨g.sub, fun i x e => ?_, fun i => ?_, fun i j a ne z => ?_, fun i a z => ?_, fun i a z => ?_, by simp only [List.length_cons]; rw [g1.len]⟩
  · cases i with
    | zero =>
      have e' : b = x := by simpa using e
      subst e'
      exact ⟨v0, rfl, r0⟩
    | succ i =>
      obtain ⟨u, e1, q⟩ := g1.rep i x (by simpa using e)
      exact ⟨u, by simpa using e1, q⟩
  · by_cases hi : i = 0
    · simp [hi, g.nd 0]
    · simp [hi]
  · by_cases hi : i = 0
    · have hj : j ≠ 0 := fun w => ne (by rw [hi, w])
      simp [hj]
    · simp [hi] at z
  · by_cases hi : i = 0
    · simp [hi] at z; exact g.off 0 a z
    · simp [hi] at z
  · by_cases hi : i = 0
    · simp [hi] at z; exact g.on 0 a z
    · simp [hi] at z
/-- the end of a body -/
theorem end_ro {σ : L2.St} {ρ : Env} {fps : Nat → List Addr} {R' H' : Hp} {fps0 : Nat → List Addr} {w : W} {v : V} {fv : List Addr} {o : O} (h0 : ∀ i a, a ∉ fps0 i) (a : After K R H fps0 R' H' σ ρ fps) (r : RX K R' H' H fps0 fps σ ρ w v fv) (e : resO ρ w = some o) :
    ∃ f, PStep R H R' H' ∧ RO K R' H' H o v f := by
  have p : PStep R H R' H' := ⟨fun b u z => a.keep b u (fun i q => h0 i b q) z, a.r, fun b z => (a.fr b z).imp_right fun z => z.elim _root_.id fun ⟨i, q⟩ => absurd q (h0 i b), a.g.sub⟩
  cases w with
  | o x =>
    have e' : x = o := by simpa [resO] using e
    subst e'
    exact ⟨fv, p, r.1, r.2.1, fun b hb => ⟨(r.2.2 b hb).2.2.elim (fun ⟨j, q⟩ => absurd q (h0 j b)) _root_.id, (r.2.2 b hb).1⟩⟩
  | al i =>
    obtain ⟨e1, ⟨x, ex⟩, _⟩ := r
    have e' : x = o := by
      have e2 : (match ρ[i]? with | some y => y | none => none) = some o := e
      rw [ex] at e2; simpa using e2
    subst e'
    obtain ⟨u, e3, q⟩ := a.g.rep i x ex
    rw [e1] at e3; cases e3
    exact ⟨fps i, p, q, a.g.nd i, fun b hb => ⟨(a.own i b hb).elim (fun ⟨j, q⟩ => absurd q (h0 j b)) _root_.id, a.g.off i b hb⟩⟩
theorem end_b {σ : L2.St} {ρ : Env} {fps fps0 : Nat → List Addr} {R' H' : Hp} {b b' : O} {v0 : V} {w : W} {v : V} {fv : List Addr} {o : O} (a : After K R H (fun i => if i = 0 then fps0 0 else []) R' H' σ ρ fps) (hσ : σ[0]? = some (some v0)) (r : RX K R' H' H (fun i => if i = 0 then fps0 0 else []) fps σ ρ w v fv)
    (e : resO ρ w = some o) (eb : ρ[0]? = some (some b')) (nw : w ≠ .al 0) :
    ∃ fps' f, After K R H fps0 R' H' [some v0] [some b'] fps' ∧ RX K R' H' H fps0 fps' [some v0] [some b'] (.o o) v f := by
  have src : ∀ i c, c ∈ (if i = 0 then fps0 0 else []) → ∃ j, c ∈ fps0 j := fun i c h => by
    by_cases hi : i = 0
    · rw [if_pos hi] at h; exact ⟨0, h⟩
    · rw [if_neg hi] at h; cases h
  have g1 : G K R' H' [some v0] [some b'] (fun i => if i = 0 then fps 0 else []) := by
    obtain ⟨u, e3, q⟩ := a.g.rep 0 b' eb
    rw [hσ] at e3; cases e3
    refine ⟨a.g.sub, fun i x e => ?_, fun i => ?_, fun i j c ne z => ?_, fun i c z => ?_, fun i c z => ?_, rfl⟩
    · cases i with
      | zero =>
        have e' : b' = x := by simpa using e
        subst e'
        exact ⟨v0, rfl, q⟩
      | succ i => simp at e
    · by_cases hi : i = 0
      · simp [hi, a.g.nd 0]
      · simp [hi]
    · by_cases hi : i = 0
      · have hj : j ≠ 0 := fun w => ne (by rw [hi, w])
        simp [hj]
      · simp [hi] at z
    · by_cases hi : i = 0
      · simp [hi] at z; exact a.g.off 0 c z
      · simp [hi] at z
    · by_cases hi : i = 0
      · simp [hi] at z; exact a.g.on 0 c z
      · simp [hi] at z
  have a1 : After K R H (fun i => if i = 0 then fps0 0 else []) R' H' [some v0] [some b'] (fun i => if i = 0 then fps 0 else []) := ⟨g1, a.r, a.fr, a.keep, a.dom, fun i c z => by
    by_cases hi : i = 0
    · simp [hi] at z; exact a.own 0 c z
    · simp [hi] at z⟩
  have a2 := a1.wide (fpsB := fps0) src
  refine ⟨fun i => if i = 0 then fps 0 else [], ?_⟩
  cases w with
  | o x =>
    have e' : x = o := by simpa [resO] using e
    subst e'
    refine ⟨fv, a2, r.1, r.2.1, fun c hc => ⟨(r.2.2 c hc).1, fun i z => ?_, (r.2.2 c hc).2.2.imp_left fun ⟨j, q⟩ => src j c q⟩⟩
    by_cases hi : i = 0
    · simp [hi] at z; exact (r.2.2 c hc).2.1 0 z
    · simp [hi] at z
  | al i =>
    obtain ⟨e1, ⟨x, ex⟩, _⟩ := r
    have e' : x = o := by
      have e2 : (match ρ[i]? with | some y => y | none => none) = some o := e
      rw [ex] at e2; simpa using e2
    subst e'
    obtain ⟨u, e3, q⟩ := a.g.rep i x ex
    rw [e1] at e3; cases e3
    refine ⟨fps i, a2, q, a.g.nd i, fun c hc => ⟨a.g.off i c hc, fun j z => ?_, (a.own i c hc).imp_left fun ⟨j, q⟩ => src j c q⟩⟩
    by_cases hj : j = 0
    · simp [hj] at z
      exact a.g.dj i 0 c (fun w => nw (by rw [w])) hc z
    · simp [hj] at z
end
/-! ## a def holds its promise -/
section
variable {P : Program} {w : World} {K : PySem.W.Frag} {mg : Str → Option Value} {base : Heap}
abbrev bodyCx (P : Program) (w : World) (K : PySem.W.Frag) (mg : Str → Option Value) (base : Heap) (N : List Str) (x : Str) (st : Stmt) (f : Addr) (cdv : Value) (A : Around) (out : List PySem.Env) (s : Shared) (H : Hp) (E : XK) : Cx :=
  (cxOf CX0 P w K mg base N x (defScope st) f cdv A out s H E).nox
theorem fnP {k : Nat} {x : Str} {ps N : List Str} {st : Stmt} {f : Addr} {fd : FuncData} {F : List PyData → FOut} {den : TEnds → Env → Prop} (h : HD K mg x ps st f fd) (S : FnScope N ps (defScope st))
    (body : ∀ (cdv : Value) (A : Around) (out : List PySem.Env) (s : Shared) (H : Hp) (E : XK), (A.deeper (envOfC x (defScope st) s.heap.objs.size f cdv)).guards = some [] → Room k (A.deeper (envOfC x (defScope st) s.heap.objs.size f cdv)) →
      XSs (bodyCx P w K mg base N x st f cdv A out s H E) [] (defBody st) den)
    (pure : ∀ ds, ds.length = ps.length → (F ds).need → den (endP (F ds)) (envP N ds)) : FnP P w K mg base (k + 1) x ps f fd (spP K F ps.length) := by
  obtain ⟨ha, hf, hb⟩ := h
  refine ⟨ha, hf.kp, hb, fnG_of hf S (fun vs H Q E ⟨R, ds, _, hd, hl, _⟩ => (dpAll_len hd).trans hl) fun cdv A out s H vs Q E hg hr ⟨R, ds, sR, hd, hl, hn, q⟩ => ⟨_, (body cdv A out s H E hg hr).nox, ?_⟩⟩
  have lv := dpAll_len hd
  have g := startP (N.length - ds.length) sR hd
  refine ⟨R, envP N ds, fun _ => [], endP (F ds), ?_, pure ds hl hn, ⟨fun R' H' σ' ρ' fps' a _ e => ?_, fun R' H' σ' ρ' fps' w' v fv a _ r e => ?_, fun _ _ _ _ _ _ _ z => z.elim, fun _ _ _ _ _ _ _ z => z.elim⟩⟩
  · unfold L2.start envP; rw [lv]; exact g
  · obtain ⟨fv, p, ro⟩ := end_ro (w := .o (.sh .none)) (v := .non) (fv := []) (o := .sh .none) (fun _ _ z => by cases z) a ⟨⟨.non, rfl⟩, List.nodup_nil, fun _ z => nomatch z⟩ rfl
    exact q _ R' H' fv p (by rw [show (F ds).o = .sh .none from e]; exact ro)
  · obtain ⟨fv', p, ro⟩ := end_ro (fun _ _ z => by cases z) a r e
    exact q v R' H' fv' p ro
theorem fnB {k : Nat} {x : Str} {ps N : List Str} {st : Stmt} {f : Addr} {fd : FuncData} {F : O → List PyData → BOut} {den : TEnds → Env → Prop} (h : HD K mg x ps st f fd) (S : FnScope N ps (defScope st))
    (body : ∀ (cdv : Value) (A : Around) (out : List PySem.Env) (s : Shared) (H : Hp) (E : XK), (A.deeper (envOfC x (defScope st) s.heap.objs.size f cdv)).guards = some [] → Room k (A.deeper (envOfC x (defScope st) s.heap.objs.size f cdv)) →
      XSs (bodyCx P w K mg base N x st f cdv A out s H E) [0] (defBody st) den)
    (pure : ∀ b ds, ds.length + 1 = ps.length → (F b ds).need → den (endB (F b ds)) (envB N b ds)) : FnP P w K mg base (k + 1) x ps f fd (spB K F ps.length) := by
  obtain ⟨ha, hf, hb⟩ := h
  refine ⟨ha, hf.kp, hb, fnG_of hf S (fun vs H Q E ⟨R, b, v0, vs', ds, fps, e, _, hd, hl, _⟩ => by rw [e, List.length_cons, dpAll_len hd]; exact hl) fun cdv A out s H vs Q E hg hr ⟨R, b, v0, vs', ds, fps, e, g, hd, hl, hn, q⟩ => ⟨_, (body cdv A out s H E hg hr).nox, ?_⟩⟩
  subst e
  have lv := dpAll_len hd
  have g1 := startB (N.length - (ds.length + 1)) g hd
  have e0 : L2.start N (v0 :: vs') = some v0 :: (vs'.map some ++ List.replicate (N.length - (ds.length + 1)) none) := by unfold L2.start; rw [List.length_cons, lv]; rfl
  refine ⟨R, envB N b ds, fun i => if i = 0 then fps 0 else [], endB (F b ds), ?_, pure b ds hl hn, ⟨fun R' H' σ' ρ' fps' a p e => ?_, fun R' H' σ' ρ' fps' w' v fv a p r e => ?_, fun _ _ _ _ _ _ _ z => z.elim, fun _ _ _ _ _ _ _ z => z.elim⟩⟩
  · rw [e0]; exact g1
  · have hσ : σ'[0]? = some (some v0) := by rw [p 0 (by simp), e0]; rfl
    obtain ⟨fps2, f2, a2, r2⟩ := end_b (b := b) (w := .o (.sh .none)) (v := .non) (fv := []) (o := .sh .none) a hσ ⟨⟨.non, rfl⟩, List.nodup_nil, fun _ z => nomatch z⟩ rfl e.2 (fun z => nomatch z)
    exact q _ R' H' fps2 f2 a2 (by rw [show (F b ds).o = .sh .none from e.1]; exact r2)
  · have hσ : σ'[0]? = some (some v0) := by rw [p 0 (by simp), e0]; rfl
    obtain ⟨fps2, f2, a2, r2⟩ := end_b (b := b) a hσ r e.1 e.2.1 e.2.2
    exact q v R' H' fps2 f2 a2 r2
end
/-! ## calls -/
section
variable {X : Cx} {k : Nat} {x : Str} {ps : List Str} {f : Addr} {fd : FuncData} {p pos : Pos} {e : Expr} {es : List Expr}
theorem pv_call {F : List PyData → FOut} {n : Nat} {vl : Env → List W} {nl : Env → Prop} (h : FnP X.prog X.w X.K X.mg X.base k x ps f fd (spP X.K F n)) (hgu : X.A.guards = some []) (hr : Room k X.A) (ha : PVs X (e :: es) vl nl)
    (hg : Gl X x := by rfl) (hd : (x == ("__debug__" : Str)) = false := by decide) (he : starEach (e :: es) X.env = (false, eval e X.env) :: starEach es X.env := by rfl) (hpl : (backTo pos (starEach es X.env)).any (·.1) = false := by rfl) :
    PV X (.Call (.Name x p) (e :: es) [] pos) (fun ρ => .o (F ((vl ρ).map (view ρ))).o) (fun ρ => nl ρ ∧ canShs ρ (vl ρ) ∧ (vl ρ).length = n ∧ (F ((vl ρ).map (view ρ))).need) := by
  refine pe_mono (pe_callG h.ok hgu hr h.at_ h.kp h.bi pass0 ha hg hd he hpl) fun σ H Q ⟨R, ρ, fps, g, ⟨h1, h2, h3, h4⟩, q⟩ => ⟨R, ρ, fps, g, h1, fun vs R1 H1 fv p1 r => ?_⟩
  obtain ⟨R2, p2, _, o⟩ := r.shared g p1 h2
  exact ⟨R2, _, p2.sub, o, by rw [List.length_map]; exact h3, h4, fun v R' H' fv p' ro => q v R' H' fv (p2.trans p') (ro.older p1.h).rw⟩
theorem xv_call {F : List PyData → FOut} {n : Nat} {dl : Env → Outs} (h : FnP X.prog X.w X.K X.mg X.base k x ps f fd (spP X.K F n)) (hgu : X.A.guards = some []) (hr : Room k X.A) (ha : XA X (e :: es) dl)
    (hg : Gl X x := by rfl) (hd : (x == ("__debug__" : Str)) = false := by decide) (he : starEach (e :: es) X.env = (false, eval e X.env) :: starEach es X.env := by rfl) (hpl : (backTo pos (starEach es X.env)).any (·.1) = false := by rfl) :
    XV X (.Call (.Name x p) (e :: es) [] pos) (fun ρ => ⟨.o (F ((dl ρ).ws.map (view (dl ρ).env))).o, (dl ρ).env, (dl ρ).need ∧ canShs (dl ρ).env (dl ρ).ws ∧ (dl ρ).ws.length = n ∧ (F ((dl ρ).ws.map (view (dl ρ).env))).need⟩) := by
  refine pe_mono (pe_callG h.ok hgu hr h.at_ h.kp h.bi pass0 ha hg hd he hpl) fun σ H Q ⟨R, ρ, fps, g, ⟨h1, h2, h3, h4⟩, q⟩ => ⟨R, ρ, fps, g, h1, fun vs R1 H1 fps1 fv a1 r => ?_⟩
  obtain ⟨R2, a2, _, o⟩ := r.frozen a1 h2
  exact ⟨R2, _, a2.g.sub, o, by rw [List.length_map]; exact h3, h4, fun v R' H' fv p' ro => q v R' H' fps1 fv (a2.then p') (ro.rx a2 p')⟩
/-- what the slot owns goes in and comes back -/
theorem back_b {K : PySem.W.Frag} {R H R' H' : Hp} {σ : L2.St} {ρ : Env} {fps fps' : Nat → List Addr} {i : Nat} {b b' : O} {v0 : V} {o : O} {v : V} {fv : List Addr} (g : G K R H σ ρ fps) (eb : ρ[i]? = some (some b)) (ev : σ[i]? = some (some v0))
    (a : After K R H (fun j => if j = 0 then fps i else []) R' H' [some v0] [some b'] fps') (r : RX K R' H' H (fun j => if j = 0 then fps i else []) fps' [some v0] [some b'] (.o o) v fv) :
    After K R H fps R' H' σ (ρ.set i (some b')) (fset fps i (fps' 0)) ∧ RX K R' H' H fps (fset fps i (fps' 0)) σ (ρ.set i (some b')) (.o o) v fv := by
  have src : ∀ j c, c ∈ (if j = 0 then fps i else []) → c ∈ fps i := fun j c h => by
    by_cases hj : j = 0
    · rw [if_pos hj] at h; exact h
    · rw [if_neg hj] at h; cases h
  have hi : i < ρ.length := (List.getElem?_eq_some_iff.mp eb).1
  have keepO : ∀ j, j ≠ i → ∀ c o, c ∈ fps j → H c = some o → H' c = some o := fun j hj c o hc z => a.keep c o (fun l w => g.dj j i c hj hc (src l c w)) z
  have offO : ∀ j, j ≠ i → ∀ c, c ∈ fps j → R' c = none := fun j hj c hc => by
    cases q : R' c with
    | none => rfl
    | some u =>
      rcases a.fr c (by rw [q]; simp) with z | z | ⟨l, z⟩
      · exact absurd (g.off j c hc) z
      · exact absurd z (g.on j c hc)
      · exact absurd (src l c z) (g.dj j i c hj hc)
  obtain ⟨u, e3, q0⟩ := a.g.rep 0 b' rfl
  have eu : v0 = u := by simpa using e3
  subst eu
  have new0 : ∀ j, j ≠ i → ∀ c, c ∈ fps' 0 → c ∉ fps j := fun j hj c hc hj' => by
    rcases a.own 0 c hc with ⟨l, z⟩ | z
    · exact g.dj j i c hj hj' (src l c z)
    · exact g.on j c hj' z
  refine ⟨⟨⟨a.g.sub, fun j y ey => ?_, fun j => ?_, fun j l c ne z => ?_, fun j c z => ?_, fun j c z => ?_, by rw [List.length_set]; exact g.len⟩, a.r, fun c z => ?_, fun c o hn z => a.keep c o (fun l w => hn i (src l c w)) z, a.dom, fun j c z => ?_⟩, r.1, r.2.1, fun c hc => ⟨(r.2.2 c hc).1, fun j z => ?_, ?_⟩⟩
  · by_cases hj : j = i
    · subst hj
      rw [List.getElem?_set_self hi] at ey
      cases ey
      exact ⟨v0, ev, by rw [fset_same]; exact q0⟩
    · rw [List.getElem?_set_ne (Ne.symm hj)] at ey
      obtain ⟨u, e1, q⟩ := g.rep j y ey
      exact ⟨u, e1, by rw [fset_ne hj]; exact rep_mono a.r y u _ q (keepO j hj)⟩
  · by_cases hj : j = i
    · rw [hj, fset_same]; exact a.g.nd 0
    · rw [fset_ne hj]; exact g.nd j
  · by_cases hj : j = i
    · rw [hj, fset_same] at z
      have hl : l ≠ i := fun w => ne (by rw [hj, w])
      rw [fset_ne hl]; exact new0 l hl c z
    · rw [fset_ne hj] at z
      by_cases hl : l = i
      · rw [hl, fset_same]; exact fun w => new0 j hj c w z
      · rw [fset_ne hl]; exact g.dj j l c ne z
  · by_cases hj : j = i
    · rw [hj, fset_same] at z; exact a.g.off 0 c z
    · rw [fset_ne hj] at z; exact offO j hj c z
  · by_cases hj : j = i
    · rw [hj, fset_same] at z; exact a.g.on 0 c z
    · rw [fset_ne hj] at z
      cases q : H c with
      | none => exact absurd q (g.on j c z)
      | some o => rw [keepO j hj c o z q]; simp
  · rcases a.fr c z with w | w | ⟨l, w⟩
    · exact .inl w
    · exact .inr (.inl w)
    · exact .inr (.inr ⟨i, src l c w⟩)
  · by_cases hj : j = i
    · rw [hj, fset_same] at z
      rcases a.own 0 c z with ⟨l, w⟩ | w
      · exact .inl ⟨i, src l c w⟩
      · exact .inr w
    · rw [fset_ne hj] at z; exact .inl ⟨j, z⟩
  · by_cases hj : j = i
    · rw [hj, fset_same] at z; exact (r.2.2 c hc).2.1 0 z
    · rw [fset_ne hj] at z
      rcases (r.2.2 c hc).2.2 with ⟨l, w⟩ | w
      · exact g.dj j i c hj z (src l c w)
      · exact g.on j c z w
  · rcases (r.2.2 c hc).2.2 with ⟨l, w⟩ | w
    · exact .inl ⟨i, src l c w⟩
    · exact .inr w
theorem G.one {K : PySem.W.Frag} {R H : Hp} {σ : L2.St} {ρ : Env} {fps : Nat → List Addr} {i : Nat} {b : O} {v0 : V} (g : G K R H σ ρ fps) (eb : ρ[i]? = some (some b)) (ev : σ[i]? = some (some v0)) : G K R H [some v0] [some b] (fun j => if j = 0 then fps i else []) := by
  obtain ⟨u, e3, q⟩ := g.rep i b eb
  rw [ev] at e3; cases e3
  refine ⟨g.sub, fun j y e => ?_, fun j => ?_, fun j l c ne z => ?_, fun j c z => ?_, fun j c z => ?_, rfl⟩
  · cases j with
    | zero =>
      have e' : b = y := by simpa using e
      subst e'
      exact ⟨v0, rfl, q⟩
    | succ j => simp at e
  · by_cases hj : j = 0
    · simp [hj, g.nd i]
    · simp [hj]
  · by_cases hj : j = 0
    · have hl : l ≠ 0 := fun w => ne (by rw [hj, w])
      simp [hl]
    · simp [hj] at z
  · by_cases hj : j = 0
    · simp [hj] at z; exact g.off i c z
    · simp [hj] at z
  · by_cases hj : j = 0
    · simp [hj] at z; exact g.on i c z
    · simp [hj] at z
@[simp] def slotO (ρ : Env) (i : Nat) : O := match ρ[i]? with
  | some (some b) => b
  | _ => .sh .none
@[simp ↓] abbrev dCallB (F : O → List PyData → BOut) (n i : Nat) (dl : Env → Outs) : Env → Out := fun ρ =>
  ⟨.o (F (slotO (dl ρ).env i) ((dl ρ).ws.map (view (dl ρ).env))).o, (dl ρ).env.set i (some (F (slotO (dl ρ).env i) ((dl ρ).ws.map (view (dl ρ).env))).b),
    (∃ b, ρ[i]? = some (some b)) ∧ (dl ρ).need ∧ canShs (dl ρ).env (dl ρ).ws ∧ (dl ρ).ws.length + 1 = n ∧ (∃ b, (dl ρ).env[i]? = some (some b)) ∧ (F (slotO (dl ρ).env i) ((dl ρ).ws.map (view (dl ρ).env))).need⟩
theorem xv_callO {F : O → List PyData → BOut} {n : Nat} (i : Nat) {dl : Env → Outs} {g0 : Str} {p0 : Pos} (h : FnP X.prog X.w X.K X.mg X.base k x ps f fd (spB X.K F n)) (hgu : X.A.guards = some []) (hr : Room k X.A) (ha : XA X es dl) (ho : PE X (.Name g0 p0) (tVar i) := by exact pv _)
    (hg : Gl X x := by rfl) (hd : (x == ("__debug__" : Str)) = false := by decide) (he : starEach (.Name g0 p0 :: es) X.env = (false, eval (.Name g0 p0) X.env) :: starEach es X.env := by rfl) (hpl : (backTo pos (starEach es X.env)).any (·.1) = false := by rfl) :
    XV X (.Call (.Name x p) (.Name g0 p0 :: es) [] pos) (dCallB F n i dl) := by
  refine pe_mono (pe_callG h.ok hgu hr h.at_ h.kp h.bi pass0 (pa_cons ho ha he) hg hd he hpl) fun σ H Q ⟨R, ρ, fps, g, ⟨⟨b0, h0⟩, h1, h2, h3, ⟨b, h4⟩, h5⟩, q⟩ => ?_
  obtain ⟨v0, ev, _⟩ := g.rep i b0 h0
  refine ⟨v0, ev, R, ρ, fps, g, h1, fun vs R1 H1 fps1 fv a1 r => ?_⟩
  obtain ⟨R2, a2, _, o⟩ := r.frozen a1 h2
  have hb : slotO (dl ρ).env i = b := by unfold slotO; rw [h4]
  rw [hb] at h5
  have q' : ∀ v R' H' fps' fv, After X.K R H fps R' H' σ ((dl ρ).env.set i (some (F b ((dl ρ).ws.map (view (dl ρ).env))).b)) fps' → RX X.K R' H' H fps fps' σ ((dl ρ).env.set i (some (F b ((dl ρ).ws.map (view (dl ρ).env))).b)) (.o (F b ((dl ρ).ws.map (view (dl ρ).env))).o) v fv → Q v H' := by
    rw [← hb]; exact q
  refine ⟨R2, b, v0, vs, _, _, rfl, a2.g.one h4 ev, o, by rw [List.length_map]; exact h3, h5, fun v R' H' fps' fv a r => ?_⟩
  obtain ⟨a3, r3⟩ := back_b a2.g h4 ev a r
  exact q' v R' H' _ fv (a2.trans a3) (r3.older a2)
end
end TL
set_option linter.all false
set_option maxRecDepth 100000
set_option maxHeartbeats 1000000
set_option autoImplicit false
namespace TL
open PySem PySem.Spec PyProof.Rows L2
/-! ## sets of one kind of keys, made of a list, and sorted -/
structure EK (P : Program) (w : World) (κ : Type) [DecidableEq κ] [BEq κ] [LawfulBEq κ] where
  knd : PySem.KeyKind P w κ
  vl : κ → Tok → Value
  out : Value → κ
  out_vl : ∀ k t, out (vl k t) = k
  is_vl : ∀ k t, knd.is k (vl k t) = true
  sc : ∀ k t, (vl k t).scannable = true
def ekStr (P : Program) (w : World) : EK P w Str where
  knd := PySem.strKind P w
  vl := fun k t => .str k t
  out := fun v => match v with
    | .str k _ => k
    | _ => ⟨#[]⟩
  out_vl := fun _ _ => rfl
  is_vl := fun k t => by show Value.isStrOf k (.str k t) = true; simp [Value.isStrOf]
  sc := fun _ _ => rfl
def ekInt (P : Program) (w : World) : EK P w Int where
  knd := PySem.intKind P w
  vl := fun k t => .int k t
  out := fun v => match v with
    | .int k _ => k
    | _ => 0
  out_vl := fun _ _ => rfl
  is_vl := fun k t => intKind_is P w k t
  sc := fun _ _ => rfl
section
variable {P : Program} {w : World} {κ : Type} [DecidableEq κ] [BEq κ] [LawfulBEq κ] (T : EK P w κ)
def EK.good (e : Int × Value) : Prop := ∃ k tk, e.2 = T.vl k tk ∧ e.1 = T.knd.hash k
def EK.key (e : Int × Value) : κ := T.out e.2
/-- the set at a holds the keys l -/
def EK.Set (h : Heap) (a : Addr) (l : List κ) : Prop :=
  ∃ o es ep t, h.get? a = some o ∧ o.ExactSet ∧ o.data = .set es ep t ∧ (∀ e ∈ es.toList, T.good e) ∧ (es.toList.map T.key).Nodup ∧ (∀ k, k ∈ l ↔ k ∈ es.toList.map T.key) ∧
    t.fits es.size = true ∧ es.size ≤ l.length ∧ Ris t.place.toList ∧ (w.params.followText "set-order" = true ∨ t.led = true)
variable {T}
theorem EK.Set.at {h h' : Heap} {a : Addr} {l : List κ} (R : T.Set h a l) (k : ∀ o, h.get? a = some o → h'.get? a = some o) : T.Set h' a l := by
  obtain ⟨o, es, ep, t, ho, r⟩ := R
  exact ⟨o, es, ep, t, k o ho, r⟩
theorem EK.elems {l : List (Int × Value)} (g : ∀ e ∈ l, T.good e) : ElemsOf T.knd l := fun e he => by
  obtain ⟨k, tk, h1, h2⟩ := g e he
  exact ⟨⟨k, by rw [h1]; exact T.is_vl k tk, h2⟩, by rw [h1]; exact T.sc k tk⟩
theorem EK.is_iff {e : Int × Value} (g : T.good e) (k : κ) : T.knd.is k e.2 = true ↔ T.key e = k := by
  obtain ⟨k0, tk, h1, _⟩ := g
  unfold EK.key
  rw [h1, T.out_vl]
  exact ⟨fun h => T.knd.inj _ _ _ (T.is_vl k0 tk) h, fun h => by rw [← h]; exact T.is_vl k0 tk⟩
variable {A : Around} {E : Value → Shared → Prop} {s : Shared} {a : Addr} {l : List κ}
theorem set_tail {g : Bool → Sem Unit} (hg : ∀ (b : Bool) (s₁ : Shared) (Q' : Unit → Shared → Prop), Q' () s₁ → wpAny (model P w) A (g b) Q' E s₁)
    {o : Obj} {es : Array (Int × Value)} {ep : Nat} {t : SetTable} (ho : s.heap.get? a = some o) (hex : o.ExactSet) (hd : o.data = .set es ep t)
    {es1 : Array (Int × Value)} {t2 : SetTable} {l' : List κ} (g1 : ∀ e ∈ es1.toList, T.good e) (nd1 : (es1.toList.map T.key).Nodup) (m1 : ∀ k, k ∈ l' ↔ k ∈ es1.toList.map T.key)
    (hb1 : es1.size < scanBound) (hs1 : es1.size ≤ l'.length) (hf2 : t2.fits es1.size = true) (hr : Ris t2.place.toList) (hl : w.params.followText "set-order" = true ∨ t2.led = true) {wasDummy : Bool} {R : Option Bool → Shared → Prop}
    (hR : ∀ h', Heap.SameBut a s.heap h' → T.Set h' a l' → R (some true) { s with heap := h' }) :
    wpAny (model P w) A (do
        storeSet a es1 t2
        if (!wasDummy && t2.tooFull) = true then do
            g (relayAll t2 es1 (SetTable.grown es1.size)).2.2
            storeSet a (relayAll t2 es1 (SetTable.grown es1.size)).1 (relayAll t2 es1 (SetTable.grown es1.size)).2.1
            pure (some true)
          else pure (some true)) R E s := by
  refine wpAny_bind (wpAny_storeSet_of ho hd ?_ (fits_of_scanBound hb1))
  have ho1 := store_at (es' := es1) (t' := t2) ho hd
  have sb1 := Heap.SameBut.update s.heap a (Obj.putSet es1 t2)
  split
  · have pm := relayAll_perm t2 es1 (SetTable.grown es1.size)
    have hf3 := relayAll_fits t2 es1 (SetTable.grown es1.size)
    have hr3 := relayAll_ris t2 es1 (SetTable.grown es1.size)
    have hl3 := relayAll_led t2 es1 (SetTable.grown es1.size)
    generalize relayAll t2 es1 (SetTable.grown es1.size) = Z at pm hf3 hr3 hl3 ⊢
    obtain ⟨es2, t3, gave⟩ := Z
    dsimp only at pm hf3 hr3 hl3 ⊢
    have hsz : es2.size = es1.size := by rw [← Array.length_toList, pm.length_eq, Array.length_toList]
    have hb2 : es2.size < scanBound := by rw [hsz]; exact hb1
    refine wpAny_bind (hg _ _ _ ?_)
    refine wpAny_bind (wpAny_storeSet_of ho1 rfl ?_ (fits_of_scanBound hb2))
    have ho2 := store_at (es' := es2) (t' := t3) ho1 rfl
    refine wpAny_pure (hR _ (sb1.trans (Heap.SameBut.update _ a _)) ?_)
    exact ⟨_, es2, _, t3, ho2, hex, rfl, fun e he => g1 e (pm.mem_iff.mp he), (pm.map T.key).nodup_iff.mpr nd1, fun k => (m1 k).trans (pm.map T.key).mem_iff.symm, hf3, by rw [hsz]; exact hs1, hr3,
      hl.imp id fun z => by rw [hl3]; exact z⟩
  · exact wpAny_pure (hR _ sb1 ⟨_, es1, _, t2, ho1, hex, rfl, g1, nd1, m1, hf2, hs1, hr, hl⟩)
theorem set_add {k : κ} {tk : Tok} {Q : Bool → Shared → Prop} (R : T.Set s.heap a l) (room : l.length + 1 < scanBound)
    (hQ : ∀ b h', Heap.SameBut a s.heap h' → T.Set h' a (l ++ [k]) → Q b { s with heap := h' }) :
    wpAny (model P w) A (setAddHashed a (T.vl k tk) (T.knd.hash k)) Q E s := by
  obtain ⟨o, es, ep, t, ho, hex, hd, g, nd, hm, hf, hn, hr, hl⟩ := R
  have hb : es.size < scanBound := by omega
  have hkey : T.knd.is k (T.vl k tk) = true := T.is_vl k tk
  have hel : ElemsOf T.knd es.toList := EK.elems g
  unfold setAddHashed setAddHashedIn
  refine wpAny_holding (wpAny_bind (wpAny_setState_of ho hd hf ?_))
  dsimp only
  rw [byScan_of (T.sc k tk) hb hel]
  simp only [↓reduceIte]
  unfold setAddByScan
  refine wpAny_bind ?_
  refine wpAny_bind (wpAny_rule ?_)
  refine wpAny_bind (wpAny_setScan_of hkey ho hd hf hel ?_)
  cases hfi : List.findIdx? (fun e => T.knd.is k e.2) es.toList with
  | some j =>
    dsimp only
    obtain ⟨hj, pj, _⟩ := List.findIdx?_eq_some_iff_getElem.mp hfi
    have hk : k ∈ es.toList.map T.key := List.mem_map.mpr ⟨es.toList[j], List.getElem_mem hj, (EK.is_iff (g _ (List.getElem_mem hj)) k).mp pj⟩
    refine wpAny_pure (wpAny_pure ?_)
    refine hQ _ s.heap (Heap.SameBut.refl a s.heap) ⟨o, es, ep, t, ho, hex, hd, g, nd, fun i => ?_, hf, by rw [List.length_append]; omega, hr, hl⟩
    rw [List.mem_append, List.mem_singleton, hm i]
    exact ⟨fun z => z.elim id fun e => by rw [e]; exact hk, .inl⟩
  | none =>
    dsimp only
    have hnk : k ∉ es.toList.map T.key := fun z => by
      obtain ⟨e, he, q⟩ := List.mem_map.mp z
      have c := List.findIdx?_eq_none_iff.mp hfi e he
      rw [(EK.is_iff (g e he) k).mpr q] at c
      cases c
    have hgw : ∀ (b : Bool) {s₁ : Shared} {Q' : Unit → Shared → Prop}, Q' () s₁ → wpAny (model P w) A (match b with | true => rule "set.scan.the-table-gave-way" | false => pure ()) Q' E s₁ :=
      fun b s₁ Q' q => by cases b <;> first | exact wpAny_pure q | exact wpAny_rule q
    have pm := layNew_perm t es (T.knd.hash k) (T.vl k tk)
    have hf1 := layNew_fits t es (T.knd.hash k) (T.vl k tk)
    have hr1 := layNew_ris t es (T.knd.hash k) (T.vl k tk) hr
    have hl1 := layNew_led t es (T.knd.hash k) (T.vl k tk)
    generalize layNew t es (T.knd.hash k) (T.vl k tk) = Z at pm hf1 hr1 hl1 ⊢
    obtain ⟨es1, t1, wasDummy, gave⟩ := Z
    dsimp only at pm hf1 hr1 hl1 ⊢
    rw [Array.toList_push] at pm
    have pc : es1.toList.Perm ((T.knd.hash k, T.vl k tk) :: es.toList) := pm.trans (List.perm_append_singleton _ _)
    have ek : T.key (T.knd.hash k, T.vl k tk) = k := T.out_vl k tk
    have pk : (es1.toList.map T.key).Perm (k :: es.toList.map T.key) := by
      have q := pc.map T.key
      rw [List.map_cons, ek] at q
      exact q
    have g1 : ∀ e ∈ es1.toList, T.good e := fun e he => by
      rcases List.mem_cons.mp (pc.mem_iff.mp he) with z | z
      · rw [z]; exact ⟨k, tk, rfl, rfl⟩
      · exact g e z
    have nd1 : (es1.toList.map T.key).Nodup := pk.nodup_iff.mpr (List.nodup_cons.mpr ⟨hnk, nd⟩)
    have m1 : ∀ i, i ∈ l ++ [k] ↔ i ∈ es1.toList.map T.key := fun i => by
      rw [List.mem_append, List.mem_singleton, hm i, pk.mem_iff, List.mem_cons]
      exact Or.comm
    have hsz : es1.size = es.size + 1 := by rw [← Array.length_toList, pc.length_eq, List.length_cons, Array.length_toList]
    have hb1 : es1.size < scanBound := by omega
    have hs1 : es1.size ≤ (l ++ [k]).length := by rw [List.length_append, List.length_singleton]; omega
    have hled : w.params.followText "set-order" = true ∨ t1.led = true := hl.imp id fun z => by rw [hl1]; exact z
    refine wpAny_bind (hgw _ ?_)
    split
    · refine wpAny_bind ?_
      rw [hashByValue_scannable 8 (T.sc k tk)]
      refine wpAny_pure ?_
      refine set_tail (T := T) ?_ ho hex hd g1 nd1 m1 hb1 hs1 ?_ ?_ ?_ ?_
      · intro b s₁ Q' q; cases b <;> first | exact wpAny_pure q | exact wpAny_rule q
      · first | (split <;> first | exact hf1 | exact SetTable.fits_plain_off hf1) | exact hf1
      · first | (split <;> exact hr1) | exact hr1
      · first | (split <;> exact hled) | exact hled
      · intro h' sb r; dsimp only; exact wpAny_pure (hQ true h' sb r)
    · refine wpAny_bind (wpAny_pure ?_)
      simp only [↓reduceIte]
      refine set_tail (T := T) ?_ ho hex hd g1 nd1 m1 hb1 hs1 hf1 hr1 hled ?_
      · intro b s₁ Q' q; cases b <;> first | exact wpAny_pure q | exact wpAny_rule q
      · intro h' sb r; dsimp only; exact wpAny_pure (hQ true h' sb r)
end
section
variable {P : Program} {w : World} {κ : Type} [DecidableEq κ] [BEq κ] [LawfulBEq κ] {T : EK P w κ} {A : Around} {R : Result → Shared → Prop} {I : Addr} {fp wr : List Addr} {G : Array GenState → Array GenState → Prop} {n : Nat} {V : Nat → Value → Prop} {St : Nat → Shared → Prop}
theorem take_at {l : List κ} {i : Nat} {k : κ} (h : l[i]? = some k) : l.take i ++ [k] = l.take (i + 1) := by rw [List.take_add_one, h]; rfl
theorem code_set_loop (W : WalksS P w A.in1 I fp wr G n V St) (S : Addr) (hSf : S ∉ fp) (l : List κ) (hn : n = l.length) (hval : ∀ i v, V i v → ∃ k t, l[i]? = some k ∧ v = T.vl k t) (hb : n + 1 < scanBound) :
    ∀ (m i : Nat) (s : Shared), n - i = m → i ≤ n → St i s → T.Set s.heap S (l.take i) →
      (∀ s', Moved (S :: wr) G s s' → T.Set s'.heap S l → R (.ok (.ret .none)) s') →
      codeAny (model P w) A (.builtin "set.update.loop" ⟨[.ref S, .ref I], []⟩) R s := by
  have hSw : S ∉ wr := fun h => hSf (W.sub _ h)
  have hsub : ∀ b ∈ wr, b ∈ S :: wr := fun b hb => List.mem_cons_of_mem _ hb
  intro m
  induction m with
  | zero =>
    intro i s hk hi hst hS hR
    have hin : i = n := by omega
    subst hin
    rw [hn, List.take_length] at hS
    refine codeAny_builtin PyProof.Rows.F.entry_set_update_loop ?_
    rw [Around.under_plainId PyProof.Rows.F.plain_set_update_loop _]
    show wpAny _ A.in1 (pyNext (.ref I) >>= _) _ _ s
    refine wpAny_bind (W.done s _ _ hst fun s' hm => ?_)
    show wpAny _ A.in1 (ret Value.none) _ _ s'
    exact wpAny_pure (hR s' (hm.mono hsub) (hS.at fun o => hm.heap S o hSw))
  | succ m ih =>
    intro i s hk hi hst hS hR
    have hlt : i < n := by omega
    refine codeAny_builtin PyProof.Rows.F.entry_set_update_loop ?_
    rw [Around.under_plainId PyProof.Rows.F.plain_set_update_loop _]
    show wpAny _ A.in1 (pyNext (.ref I) >>= _) _ _ s
    refine wpAny_bind (W.item i s _ _ hlt hst fun v s' hP hst' hm => ?_)
    obtain ⟨k, t, ek, rfl⟩ := hval i v hP
    have hS' : T.Set s'.heap S (l.take i) := hS.at fun o => hm.heap S o hSw
    show wpAny _ A.in1 (holding [T.vl k t] (setAdd S (T.vl k t)) >>= _) _ _ s'
    refine wpAny_bind (wpAny_holding ?_)
    unfold setAdd
    refine wpAny_holding ?_
    refine wpAny_bind (T.knd.pyHash (k := k) (T.is_vl _ _) ?_)
    refine set_add (T := T) (s := { s' with toks := s'.toks + 1 }) hS' (by rw [List.length_take]; omega) fun b h' hsb hS2 => ?_
    rw [take_at ek] at hS2
    refine wpAny_pure ⟨plainId_quiet PyProof.Rows.F.plain_set_update_loop _, ih (i + 1) _ (by omega) hlt (W.frame _ s' _ _ hst' (Nat.le_succ _) fun b hb o e => ?_) hS2 fun s'' hm'' hS'' => ?_⟩
    · rw [hsb.2 b (fun h : b = S => hSf (by rw [← h]; exact hb))]; exact e
    · refine hR s'' (Moved.trans W.gtrans ((hm.mono hsub).then_heap (Nat.le_succ _) fun b o hb e => ?_) hm'') hS''
      rw [hsb.2 b (fun h : b = S => hb (by rw [h]; exact List.mem_cons_self))]; exact e
end
end TL
set_option linter.all false
set_option maxRecDepth 100000
set_option maxHeartbeats 3200000
set_option autoImplicit false
namespace PySem
open PySem.Spec PyProof.Rows L2 TL
section
variable {P : Program} {w : World} {κ : Type} [DecidableEq κ] [BEq κ] [LawfulBEq κ] {T : EK P w κ} {A : Around} {E : Value → Shared → Prop} {s : Shared}
theorem tl_code_set_new (a : Value) {Q₁ : Value → Shared → Prop}
    (h : Q₁ (.ref s.heap.objs.size) { s with heap := s.heap.push { cls := .type "set", dict := none, data := .set #[] 0 (.fresh 0 0 (!w.params.followText "set-order")) } }) :
    codeAny (model P w) A (.call (.builtin "set.__new__") ⟨[.type "set", a], []⟩) (wants Q₁ E) s := by
  refine codeAny_of_tree ?_
  show wpAny _ A.in1 (do checkBuiltinCall "set.__new__" ⟨[.type "set", a], []⟩; again (.builtin "set.__new__" ⟨[.type "set", a], []⟩)) _ _ s
  refine wpAny_bind (wpAny_of_eq (F.newCall_set_1 a) (wpAny_pure ⟨plainId_quiet F.plain_set_new _, codeAny_builtin F.entry_set_new ?_⟩))
  rw [Around.under_plainId F.plain_set_new _]
  unfold Builtin.«set.__new__» Builtin.Frozenset.newClass
  have hsub := sub_set_self
  obtain ⟨hp, g, d, tk, os⟩ := s
  dsimp only
  wp_walk
  refine wpAny_askSetting (wpAny_pure ?_)
  dsimp only
  simp only [newObj]
  refine wpAny_bind (wpAny_alloc (wpAny_pure ?_))
  exact wpAny_pure h
theorem tl_set_fresh {h : Heap} : T.Set (h.push { cls := .type "set", dict := none, data := .set #[] 0 (.fresh 0 0 (!w.params.followText "set-order")) }) h.objs.size [] :=
  ⟨_, #[], 0, _, Heap.get?_push_size _ rfl, ⟨rfl, rfl, rfl⟩, rfl, (fun e he => by simp at he), (by simp), (fun k => by simp), (by rfl), (by simp), List.Pairwise.nil, by
    show _ ∨ (!w.params.followText "set-order") = true
    cases w.params.followText "set-order"
    · exact .inr rfl
    · exact .inl rfl⟩
theorem tl_call_set_list {l : Addr} {items : Array Value} {ks : List κ} {Q : Value → Shared → Prop}
    (hh : A.handled = none) (hl : s.heap.IsList l items) (hn : items.size = ks.length) (hi : ∀ (i : Nat) (v : Value), items[i]? = some v → ∃ k t, ks[i]? = some k ∧ v = T.vl k t) (hb : items.size + 1 < scanBound)
    (h : ∀ (h' : Heap) (tk : Nat), T.Set h' s.heap.objs.size ks → (∀ b o, s.heap.get? b = some o → h'.get? b = some o) → Q (.ref s.heap.objs.size) { s with heap := h', toks := tk }) :
    wpAny (model P w) A (call (.type "set") [.ref l]) Q E s := by
  have h : ∀ (h' : Heap) (tk : Nat), T.Set h' s.heap.objs.size ks → (∀ b o, b < s.heap.objs.size → s.heap.get? b = some o → h'.get? b = some o) → Q (.ref s.heap.objs.size) { s with heap := h', toks := tk } :=
    fun h' tk S k => h h' tk S fun b o e => k b o (Heap.lt_size e) e
  obtain ⟨c, tl, hmro⟩ := F.called_set.mro
  have hmade := F.called_set.made
  have hsub := F.called_set.sub
  refine wpAny_call (codeAny_of_tree ?_)
  show wpAny _ _ (callAny (.type "set") _) _ _ _
  refine wpAny_pure ⟨Code.quiet_builtin _ (by decide +kernel), codeAny_builtin F.entry_type_call ?_⟩
  rw [Around.under_plain (weight_type_call_type "set" [.ref l] []) rfl]
  have h1 := F.called_set.notType
  have h2 := F.called_set.canCreate
  have hct := F.typeCall_set_1 (.ref l)
  repeat (any_goals (first | assumption | wp_step))
  refine codeAny_mono (tl_code_set_new (.ref l) (E := E) (Q₁ := fun obj s₁ => obj = .ref s.heap.objs.size ∧ s₁ = { s with heap := s.heap.push { cls := .type "set", dict := none, data := .set #[] 0 (.fresh 0 0 (!w.params.followText "set-order")) } }) ⟨rfl, rfl⟩) fun r s₁ hr => ?_
  cases r with
  | error e => exact hr
  | ok fl =>
    cases fl with
    | ret obj =>
      obtain ⟨rfl, rfl⟩ := hr
      generalize hled : (!w.params.followText "set-order") = led
      have hS : (s.heap.push { cls := .type "set", dict := none, data := .set #[] 0 (.fresh 0 0 led) }).get? s.heap.objs.size = some { cls := .type "set", dict := none, data := .set #[] 0 (.fresh 0 0 led) } := Heap.get?_push_size _ rfl
      have hT : Shared.TypeIs { s with heap := s.heap.push { cls := .type "set", dict := none, data := .set #[] 0 (.fresh 0 0 led) } } (.ref s.heap.objs.size) "set" := ⟨_, hS, rfl⟩
      have hli := F.called_set.init.lookup
      have hbi := F.called_set.init.bind (.ref s.heap.objs.size)
      repeat (any_goals (first | assumption | wp_step))
      refine codeAny_mono (codeAny_call_builtin (R := wants (fun r s₂ => r = .none ∧ ∃ h' tk, s₂ = { s with heap := h', toks := tk } ∧ T.Set h' s.heap.objs.size ks ∧
          (∀ b o, b < s.heap.objs.size → s.heap.get? b = some o → h'.get? b = some o)) E) F.called_set.init.plain F.entry_set_init (check_set_init_1 hT ?_)) fun r₂ s₂ hr₂ => ?_
      · obtain ⟨ol, hol, hcl, nl, hdl⟩ := hl
        obtain ⟨ocls, odict, odata, oslots⟩ := ol
        simp only at hcl hdl
        subst hcl; subst hdl
        have hol' : (s.heap.push { cls := .type "set", dict := none, data := .set #[] 0 (.fresh 0 0 led) }).get? l = some { cls := .type "list", dict := odict, data := .seq items nl, slots := oslots } := Heap.get?_push_of_some _ hol
        have hsls := F.sub_list_set
        have hslf := F.sub_list_frozenset
        have hne : (Value.type "list" == Value.type "dict") = false := by decide
        have hl1 : (s.heap.push { cls := .type "set", dict := none, data := .set #[] 0 (.fresh 0 0 led) }).IsList l items := ⟨_, hol', rfl, nl, rfl⟩
        unfold Builtin.«set.__init__» noKeywords Builtin.Frozenset.updateFrom
        generalize hPI : pyIter = PI
        wp_walk
        subst hPI
        refine wpAny_pyIter_list hl1 ?_
        refine wpAny_bind (wpAny_runValue ?_)
        have hlS : l < s.heap.objs.size := Heap.lt_size hol
        have hh3 : A.in1.in1.in1.handled = none := by simp [hh]
        have hneI : l ≠ (s.heap.push { cls := .type "set", dict := none, data := .set #[] 0 (.fresh 0 0 led) }).objs.size := by
          rw [Heap.size_push]; exact Nat.ne_of_lt (Nat.lt_succ_of_lt hlS)
        have hSf : s.heap.objs.size ∉ [(s.heap.push { cls := .type "set", dict := none, data := .set #[] 0 (.fresh 0 0 led) }).objs.size, l] := by
          rw [Heap.size_push]; simp only [List.mem_cons, List.mem_singleton, List.not_mem_nil, or_false, not_or]
          exact ⟨Nat.ne_of_lt (Nat.lt_succ_self _), Nat.ne_of_gt hlS⟩
        refine code_set_loop (T := T) ((Walks.list hh3 _ l hneI items).toS) s.heap.objs.size hSf ks hn hi hb (items.size - 0) 0 _ (by omega) (Nat.zero_le _)
          ⟨⟨_, Heap.get?_push_size _ rfl, rfl, rfl⟩, (hl1.push _)⟩ ?hS0 ?hR
        case hS0 =>
          have q := tl_set_fresh (T := T) (h := s.heap)
          rw [hled] at q
          exact q.at fun o e => Heap.get?_push_of_some _ e
        case hR =>
          intro s' hm hS'
          obtain ⟨h', g', d', tk', os'⟩ := s'
          have eg : g' = s.gens := hm.gens
          have ed : d' = s.drawn := hm.drawn
          have eo : os' = s.os := hm.os
          subst eg; subst ed; subst eo
          show wpAny _ _ _ _ _ _
          refine wpAny_pure ?_
          show wpAny _ _ (ret Value.none) _ _ _
          refine wpAny_pure ⟨rfl, h', tk', rfl, hS', fun b o hb e => ?_⟩
          have hb1 : b ≠ s.heap.objs.size := Nat.ne_of_lt hb
          have hb2 : b ≠ (s.heap.push { cls := .type "set", dict := none, data := .set #[] 0 (.fresh 0 0 led) }).objs.size := by
            rw [Heap.size_push]; exact Nat.ne_of_lt (Nat.lt_succ_of_lt hb)
          exact hm.heap b o (by simp only [List.mem_cons, List.mem_singleton, List.not_mem_nil, or_false, not_or]; exact ⟨hb1, hb2⟩) (Heap.get?_push_of_some _ (Heap.get?_push_of_some _ e))
      · cases r₂ with
        | error e => exact hr₂
        | ok fl₂ =>
          cases fl₂ with
          | ret r =>
            obtain ⟨rfl, h', tk, rfl, hS', hk'⟩ := hr₂
            repeat (any_goals (first | assumption | wp_step))
            exact h _ _ hS' hk'
          | _ => exact hr₂.elim
    | _ => exact hr.elim
/-- sorted(the set): the keys, unlike, sorted -/
theorem tl_sorted_set {a : Addr} {l : List κ} {d : κ → PyData} {Q : Value → Shared → Prop} (R : T.Set s.heap a l) (hh : A.handled = none) (hb : l.length < scanBound) (hu : A.units + 2 < cLine)
    (hd : ∀ k t h, Reads h (T.vl k t) (d k) []) (h0 : ∀ k, (d k).depth = 0) (al : ∀ ks : List κ, PySem.W.AllAlike (ks.map d)) (so : ∀ ks : List κ, PySem.W.Sortable (ks.map d))
    (hQ : ∀ s' p (out : List Value) c (ks : List κ), (∀ b o, s.heap.get? b = some o → s'.heap.get? b = some o) → s'.gens = s.gens → s'.os = s.os → s.heap.objs.size ≤ p → s'.heap.get? p = some (seqObj "list" out.toArray c) →
      out.length = ks.length → ks.Nodup → (∀ k, k ∈ ks ↔ k ∈ l) → PySem.W.EachIs (fun v k => ∃ t, v = T.vl k t) out (ks.mergeSort (PySem.W.dataLe false d)) → Q (.ref p) s') :
    wpAny (model P w) A (call (.builtin "sorted") [.ref a]) Q E s := by
  obtain ⟨o, es, ep, t, ho, hex, hdt, g, nd, hm, hf, hn, hr, hl⟩ := R
  refine Calls.call_function_entry kind_sorted plain_sorted entry_sorted (args_sorted1 _) ?_
  unfold Builtin.«sorted»
  refine wpAny_bind (m := checkCount "sorted" 1 1 _) (wpAny_pure ?_)
  refine wpAny_bind (collect_set (A := A.in1) hh ⟨o, ho, hex.1, hdt⟩ hf (Nat.lt_of_le_of_lt hn hb) hr hl fun s1 vs k1 hz g1 o1 pm => ?_)
  have hvl : vs.length = es.size := by rw [pm.length_eq, List.length_map, Array.length_toList]
  have hsz : vs.length ≤ sizeLine := fits_of_scanBound (by rw [hvl]; exact Nat.lt_of_le_of_lt hn hb)
  have hv : ∀ v ∈ vs, ∃ t, v = T.vl (T.out v) t := fun v hv => by
    obtain ⟨e, he, q⟩ := List.mem_map.mp (pm.mem_iff.mp hv)
    obtain ⟨k, tk, h1, _⟩ := g e he
    refine ⟨tk, ?_⟩
    rw [← q, h1, T.out_vl]
  have pk : (vs.map T.out).Perm (es.toList.map T.key) := by
    have q := pm.map T.out
    rw [List.map_map] at q
    exact q
  have each : ∀ us : List Value, (∀ v ∈ us, ∃ t, v = T.vl (T.out v) t) → PySem.W.EachIs (fun v k => ∃ t, v = T.vl k t) us (us.map T.out) := fun us => by
    induction us with
    | nil => exact fun _ => .nil
    | cons u us ih => exact fun h => .cons (h u List.mem_cons_self) (ih fun v hv => h v (List.mem_cons_of_mem _ hv))
  refine wpAny_bind (wpAny_newList ?_ hsz)
  have hoL : (s1.heap.push (seqObj "list" vs.toArray 0)).get? s1.heap.objs.size = some (seqObj "list" vs.toArray 0) := Heap.get?_push_size _ rfl
  have ev := each vs hv
  refine wpAny_bind (wpAny_holding (PySem.W.list_sort_data (enc := d) (bs := vs.map T.out) (R := fun v k => ∃ t, v = T.vl k t) hoL ev (ev.mono fun v k ⟨t, e⟩ => ⟨[], by rw [e]; exact hd k t _, by simp⟩) (al _) (so _) (by rw [List.length_map]; exact hsz)
    (fun b _ => by rw [h0 b]; show A.units + 1 + 1 + 0 < cLine; omega) fun out ho' eo => ?_))
  obtain ⟨c, hc⟩ := sortedHeap_at (vs := vs) (out := List.toArray out) hoL
  refine wpAny_pure ⟨_, rfl, hQ _ s1.heap.objs.size out c (vs.map T.out) (fun b u e => ?_) g1 o1 hz hc ho' (pk.nodup_iff.mpr nd) (fun k => by rw [pk.mem_iff, ← hm k]) eo⟩
  have q := k1 b u e
  have hlt := Heap.lt_size q
  show (sortedHeap (s1.heap.push (seqObj "list" vs.toArray 0)) s1.heap.objs.size vs out.toArray).get? b = some u
  rw [sortedHeap_old (Nat.ne_of_lt hlt) (by rw [size_push']; exact Nat.lt_succ_of_lt hlt)]
  exact Heap.get?_push_of_some _ q
end
end PySem
set_option linter.all false
set_option maxRecDepth 100000
set_option maxHeartbeats 1000000
set_option autoImplicit false
namespace TL
open PySem PySem.Spec PyProof.Rows L2
/-! ## sorted(set(xs)) -/
def srtS (l : List Str) : List Str := l.eraseDups.mergeSort (PySem.W.dataLe false PyData.str)
def srtI (l : List Int) : List Int := l.eraseDups.mergeSort (PySem.W.dataLe false PyData.int)
theorem leS (a b : Str) : PySem.W.dataLe false PyData.str a b = !decide (b.cps.toList < a.cps.toList) := by
  rw [← PySem.W.dataLt_str]; rfl
theorem leI (a b : Int) : PySem.W.dataLe false PyData.int a b = !decide (b < a) := by
  rw [← PySem.W.dataLt_int]; rfl
theorem str_ext {a b : Str} (h : a.cps.toList = b.cps.toList) : a = b := PySem.W.str_of_cps h
theorem nodup_eraseDups' {α : Type} [BEq α] [LawfulBEq α] : ∀ l : List α, l.eraseDups.Nodup := fun l => by
  induction hn : l.length using Nat.strongRecOn generalizing l with
  | _ n ih =>
    cases l with
    | nil => simp
    | cons a l =>
      rw [List.eraseDups_cons, List.nodup_cons]
      refine ⟨fun h => ?_, ih _ ?_ _ rfl⟩
      · rw [List.mem_eraseDups] at h
        simp at h
      · have := List.length_filter_le (fun b => !b == a) l
        simp at hn
        omega
section
variable {κ : Type} [BEq κ] [LawfulBEq κ] {d : κ → PyData}
theorem le_trans_d (a b c : κ) : PySem.W.dataLe false d a b = true → PySem.W.dataLe false d b c = true → PySem.W.dataLe false d a c = true := (PySem.W.sortLe_total _ false _).trans a b c
theorem le_total_d (a b : κ) : (PySem.W.dataLe false d a b || PySem.W.dataLe false d b a) = true := by
  have h : PySem.W.dataLe false d a b = true ∨ PySem.W.dataLe false d b a = true := (PySem.W.sortLe_total _ false _).total a b
  rw [Bool.or_eq_true]; exact h
theorem srt_unique {ks l : List κ} (anti : ∀ a b, PySem.W.dataLe false d a b = true → PySem.W.dataLe false d b a = true → a = b) (nd : ks.Nodup) (h : ∀ k, k ∈ ks ↔ k ∈ l) :
    ks.mergeSort (PySem.W.dataLe false d) = l.eraseDups.mergeSort (PySem.W.dataLe false d) := by
  have p : ks.Perm l.eraseDups := (List.perm_ext_iff_of_nodup nd (nodup_eraseDups' l)).mpr fun k => by rw [List.mem_eraseDups]; exact h k
  refine List.Perm.eq_of_pairwise (le := fun a b => PySem.W.dataLe false d a b = true) (fun a b _ _ => anti a b) (List.pairwise_mergeSort le_trans_d le_total_d _) (List.pairwise_mergeSort le_trans_d le_total_d _) ?_
  exact (List.mergeSort_perm _ _).trans (p.trans (List.mergeSort_perm _ _).symm)
end
theorem antiS (a b : Str) (h1 : PySem.W.dataLe false PyData.str a b = true) (h2 : PySem.W.dataLe false PyData.str b a = true) : a = b := by
  rw [leS] at h1 h2
  simp at h1 h2
  exact str_ext (List.le_antisymm h1 h2)
theorem antiI (a b : Int) (h1 : PySem.W.dataLe false PyData.int a b = true) (h2 : PySem.W.dataLe false PyData.int b a = true) : a = b := by
  rw [leI] at h1 h2
  simp at h1 h2
  omega
def rSortSet (K : PySem.W.Frag) : List V → Hp → VK → Prop := fun xs H Q => ∃ a, xs = [.ref a] ∧
  ((∃ zs : List Str, SqL K H a (zs.map V.str) ∧ zs.length + 1 < scanBound ∧ ∀ p, H p = none → Q (.ref p) (upd H p (.lst ((srtS zs).map V.str)))) ∨
   (∃ zs : List Int, SqL K H a (zs.map V.int) ∧ zs.length + 1 < scanBound ∧ ∀ p, H p = none → Q (.ref p) (upd H p (.lst ((srtI zs).map V.int)))))
theorem vals_of {α : Type} {c : α → V} {mk : α → Tok → Value} (rel : ∀ k v, RelV (c k) v → ∃ t, v = mk k t) : ∀ {zs : List α} {us : List Value}, Vals (zs.map c) us → us.length = zs.length ∧ ∀ (i : Nat) (v : Value), us[i]? = some v → ∃ k t, zs[i]? = some k ∧ v = mk k t
  | [], _, .nil => ⟨rfl, fun i v h => by simp at h⟩
  | z :: zs, _, .cons h t => by
    obtain ⟨h1, h2⟩ := vals_of rel t
    refine ⟨by rw [List.length_cons, List.length_cons, h1], fun i v e => ?_⟩
    cases i with
    | zero =>
      obtain ⟨t, rfl⟩ := rel _ _ h
      simp at e
      exact ⟨z, t, rfl, e.symm⟩
    | succ i => exact h2 i v (by simpa using e)
theorem each_vals {α : Type} {c : α → V} {mk : α → Tok → Value} (rel : ∀ k t, RelV (c k) (mk k t)) : ∀ {us : List Value} {zs : List α}, PySem.W.EachIs (fun v k => ∃ t, v = mk k t) us zs → Vals (zs.map c) us
  | _, _, .nil => .nil
  | _, _, .cons ⟨t, e⟩ r => by
    subst e
    exact .cons (rel _ t) (each_vals rel r)
section
variable {X : Cx}
theorem run_sortset {κ : Type} [DecidableEq κ] [BEq κ] [LawfulBEq κ] (T : EK X.prog X.w κ) {c : κ → V} {d : κ → PyData} (hc : X.calm = true) (hu : X.A.units + 64 < cLine) (rel : ∀ k v, RelV (c k) v → ∃ t, v = T.vl k t) (rel2 : ∀ k t, RelV (c k) (T.vl k t))
    (hd : ∀ k t h, Reads h (T.vl k t) (d k) []) (h0 : ∀ k, (d k).depth = 0) (al : ∀ ks : List κ, PySem.W.AllAlike (ks.map d)) (so : ∀ ks : List κ, PySem.W.Sortable (ks.map d)) (anti : ∀ a b, PySem.W.dataLe false d a b = true → PySem.W.dataLe false d b a = true → a = b)
    {pins : List (Addr × Obj)} {s : Shared} {σ : L2.St} {H : Hp} {a : Addr} {zs : List κ} {Q : VK} (I : Inv X pins σ H s) (hs : SqL X.K H a (zs.map c)) (hl : zs.length + 1 < scanBound)
    (q : ∀ p, H p = none → Q (.ref p) (upd H p (.lst ((zs.eraseDups.mergeSort (PySem.W.dataLe false d)).map c)))) :
    wpAny (model X.prog X.w) X.A (call (.type "set") [.ref a]) (fun u s1 => wpAny (model X.prog X.w) X.A (call (.builtin "sorted") [u]) (EP X pins σ Q) X.xe s1) X.xe s := by
  obtain ⟨its, rv, pl, hz⟩ := I.list hs
  obtain ⟨l1, l2⟩ := vals_of rel rv
  refine PySem.tl_call_set_list (T := T) (ks := zs) (I.ok.hd hc) pl.isList (by simpa using l1) (fun i v e => l2 i v (by simpa using e)) (by rw [List.size_toArray, l1]; exact hl) fun h' tk S k => ?_
  have I1 : Inv X pins σ H { s with heap := h', toks := tk } := I.kept k
  refine PySem.tl_sorted_set (T := T) (d := d) S (I.ok.hd hc) (by omega) (by omega) hd h0 al so fun s' p out cc ks k2 g2 o2 hp hp2 ho nd hm ev => ?_
  rw [srt_unique anti nd hm] at ev
  have rv' := each_vals (c := c) rel2 ev
  obtain ⟨hp', gs', dr', tk', os'⟩ := s'
  have hys : (List.map c (zs.eraseDups.mergeSort (PySem.W.dataLe false d))).length ≤ sizeLine := by
    rw [List.length_map, List.length_mergeSort]
    have h1 : zs.eraseDups.length ≤ zs.length := List.Nodup.length_le_of_subset (nodup_eraseDups' zs) fun x hx => List.mem_eraseDups.mp hx
    have h2 : scanBound ≤ sizeLine := by decide
    omega
  refine ⟨.ref p, _, ?_, rfl, q p (I1.hok.fresh hp)⟩
  have J := I1.laid (t' := tk') (a := p) (o := .lst (List.map c (zs.eraseDups.mergeSort (PySem.W.dataLe false d)))) k2 hp ⟨hys, out, cc, rv', hp2⟩
  have eg : gs' = s.gens := g2
  have eo : os' = s.os := o2
  subst eg; subst eo
  exact ⟨J.ok, J.os, J.bare, J.base, J.loc, J.cell, J.free, J.freeC, J.pin, J.hok, J.len⟩
theorem pe_sortset {e : Expr} {t : TA} {p p2 pos pos2 : Pos} (hc : X.calm = true) (hu : X.A.units + 64 < cLine) (hm : X.mg "sorted" = none) (hm2 : X.mg "set" = none) (ha : PA X [e] t)
    (hg : Gl X "sorted" := by rfl) (hg2 : Gl X "set" := by rfl) (hs : starEach [e] X.env = [(false, eval e X.env)] := by rfl)
    (hs2 : starEach [.Call (.Name "set" p2) [e] [] pos2] X.env = [(false, eval (.Call (.Name "set" p2) [e] [] pos2) X.env)] := by rfl) :
    PE X (.Call (.Name "sorted" p) [.Call (.Name "set" p2) [e] [] pos2] [] pos) (tCB (rSortSet X.K) t) := by
  refine ⟨fun pins s σ H Q I h => ?_⟩
  refine wpAny_Call_Name_kw (ld_blt I hg hm (by decide +kernel : bootBuiltins "sorted" = some (.builtin "sorted")) ?_)
  refine PyProof.Rows.callWith_builtin1 ?_ (by rw [hs2]; rfl) (by rfl)
  rw [hs2]
  refine Calls.spliced_cons (wpAny_mono (Q := fun u s1 => wpAny (model X.prog X.w) X.A (call (.builtin "sorted") [u]) (EP X pins σ Q) X.xe s1) (E := X.xe) ?_ (fun u s1 hh => Calls.spliced_nil hh) fun _ _ z => z)
  rw [if_neg Bool.false_ne_true]
  refine wpAny_Call_Name_kw (ld_blt I hg2 hm2 (by decide +kernel : bootBuiltins "set" = some (.type "set")) ?_)
  refine PyProof.Rows.callWith_type1 ?_ (by rw [hs]; rfl) (by rfl)
  rw [hs]
  rw [← hs]
  refine thn (ha.run pos2 pins s σ H _ I h) fun us s1 ⟨vs, H1, I1, r1, q1⟩ => ?_
  obtain ⟨a, e1, q1⟩ := q1
  subst e1
  rw [Vals.ref1 r1]
  rcases q1 with ⟨zs, hz, hl, q⟩ | ⟨zs, hz, hl, q⟩
  · refine run_sortset (ekStr X.prog X.w) (c := V.str) (d := PyData.str) hc hu (fun k v ⟨t, e⟩ => ⟨t, e⟩) (fun k t => ⟨t, rfl⟩) (fun k t h => .str k t) (fun _ => rfl) (fun ks d h d' h' => ?_) (fun ks => .inr fun d h => ?_) antiS I1 hz hl q
    · obtain ⟨x, _, rfl⟩ := List.mem_map.mp h
      obtain ⟨y, _, rfl⟩ := List.mem_map.mp h'
      rfl
    · obtain ⟨x, _, rfl⟩ := List.mem_map.mp h
      exact ⟨by simp, fun xs => by simp⟩
  · refine run_sortset (ekInt X.prog X.w) (c := V.int) (d := PyData.int) hc hu (fun k v ⟨t, e⟩ => ⟨t, e⟩) (fun k t => ⟨t, rfl⟩) (fun k t h => .int k t) (fun _ => rfl) (fun ks d h d' h' => ?_) (fun ks => .inr fun d h => ?_) antiI I1 hz hl q
    · obtain ⟨x, _, rfl⟩ := List.mem_map.mp h
      obtain ⟨y, _, rfl⟩ := List.mem_map.mp h'
      rfl
    · obtain ⟨x, _, rfl⟩ := List.mem_map.mp h
      exact ⟨by simp, fun xs => by simp⟩
end
/-! the lift -/
def isSs : PyData → Prop
  | .list ds => ∀ d ∈ ds, isS d
  | _ => False
def sortSetD (d : PyData) : O := .lst ((srtS (asSs d)).map .str)
def sortSetI (d : PyData) : O := .lst ((srtI (asIs d)).map .int)
def nSortSet (d : PyData) : Prop := isSs d ∧ (asSs d).length + 1 < scanBound
def nSortSetI (d : PyData) : Prop := isIs d ∧ (asIs d).length + 1 < scanBound
theorem dpAll_str {K : PySem.W.Frag} {R : Hp} : ∀ zs : List Str, DpAll K R (zs.map V.str) (zs.map PyData.str)
  | [] => .nil
  | z :: zs => .cons (.str z) (dpAll_str zs)
theorem dpAll_int {K : PySem.W.Frag} {R : Hp} : ∀ zs : List Int, DpAll K R (zs.map V.int) (zs.map PyData.int)
  | [] => .nil
  | z :: zs => .cons (.int z) (dpAll_int zs)
theorem con_sortset {K : PySem.W.Frag} : ConC K (rSortSet K) (f1 sortSetD) (n1 nSortSet) := by
  refine conC1 (f := sortSetD) fun x d R H Q s hx hn k => ?_
  cases d with
  | list ds =>
    obtain ⟨a, vs, rfl, hs, ha⟩ := hx.2
    have e := dpAll_strs ha hn.1
    rw [e] at hs
    refine ⟨a, rfl, .inl ⟨ds.map asS, hs, hn.2, fun p hp => ?_⟩⟩
    obtain ⟨p1, r1⟩ := new_lst (.refl s) hp (dpAll_str (K := K) (srtS (ds.map asS)))
    exact k _ _ _ _ p1 r1
  | _ => exact hn.1.elim
theorem con_sortsetI {K : PySem.W.Frag} : ConC K (rSortSet K) (f1 sortSetI) (n1 nSortSetI) := by
  refine conC1 (f := sortSetI) fun x d R H Q s hx hn k => ?_
  cases d with
  | list ds =>
    obtain ⟨a, vs, rfl, hs, ha⟩ := hx.2
    have e := dpAll_ints ha hn.1
    rw [e] at hs
    refine ⟨a, rfl, .inr ⟨ds.map asI, hs, hn.2, fun p hp => ?_⟩⟩
    obtain ⟨p1, r1⟩ := new_lst (.refl s) hp (dpAll_int (K := K) (srtI (ds.map asI)))
    exact k _ _ _ _ p1 r1
  | _ => exact hn.1.elim
section
variable {X : Cx} {e : Expr} {p p2 pos pos2 : Pos}
theorem pv_sortset {f : List PyData → O} {n : List PyData → Prop} {vl : Env → List W} {nl : Env → Prop} (hc : X.calm = true) (hu : X.A.units + 64 < cLine) (C : ConC X.K (rSortSet X.K) f n) (hm : X.mg "sorted" = none) (hm2 : X.mg "set" = none) (ha : PVs X [e] vl nl)
    (hg : Gl X "sorted" := by rfl) (hg2 : Gl X "set" := by rfl) (hs : starEach [e] X.env = [(false, eval e X.env)] := by rfl)
    (hs2 : starEach [.Call (.Name "set" p2) [e] [] pos2] X.env = [(false, eval (.Call (.Name "set" p2) [e] [] pos2) X.env)] := by rfl) :
    PV X (.Call (.Name "sorted" p) [.Call (.Name "set" p2) [e] [] pos2] [] pos) (pvC f vl) (pnC n vl nl) :=
  pe_mono (pe_sortset hc hu hm hm2 ha hg hg2 hs hs2) (argsC C)
theorem xv_sortset {f : List PyData → O} {n : List PyData → Prop} {dl : Env → Outs} (hc : X.calm = true) (hu : X.A.units + 64 < cLine) (C : ConC X.K (rSortSet X.K) f n) (hm : X.mg "sorted" = none) (hm2 : X.mg "set" = none) (ha : XA X [e] dl)
    (hg : Gl X "sorted" := by rfl) (hg2 : Gl X "set" := by rfl) (hs : starEach [e] X.env = [(false, eval e X.env)] := by rfl)
    (hs2 : starEach [.Call (.Name "set" p2) [e] [] pos2] X.env = [(false, eval (.Call (.Name "set" p2) [e] [] pos2) X.env)] := by rfl) :
    XV X (.Call (.Name "sorted" p) [.Call (.Name "set" p2) [e] [] pos2] [] pos) (dC f n dl) :=
  pe_mono (pe_sortset hc hu hm hm2 ha hg hg2 hs hs2) (xargsC C)
end
end TL
set_option linter.all false
set_option maxRecDepth 100000
set_option maxHeartbeats 1000000
set_option autoImplicit false
namespace TL
open PySem PySem.Spec PyProof.Rows L2
/-! ## a < b < c -/
section
variable {X : Cx} {va vb vc : Env → W} {na nb nc : Env → Prop} {a b c : Expr} {pos : Pos}
@[simp ↓] def dChain (g g' : PyData → PyData → Bool) (va vb vc : Env → W) : Env → W := fun ρ => .o (.sh (.bool (g (view ρ (va ρ)) (view ρ (vb ρ)) && g' (view ρ (vb ρ)) (view ρ (vc ρ)))))
@[simp ↓] def nChain (g g' : PyData → PyData → Bool) (va vb vc : Env → W) (na nb nc : Env → Prop) : Env → Prop := fun ρ =>
  na ρ ∧ nb ρ ∧ nc ρ ∧ isAt (view ρ (vb ρ)) ∧ nOrd (view ρ (va ρ)) (view ρ (vb ρ)) ∧ (g (view ρ (va ρ)) (view ρ (vb ρ)) = true → nOrd (view ρ (vb ρ)) (view ρ (vc ρ)))
theorem at_dp {K : PySem.W.Frag} {H H' : Hp} {v : V} {d : PyData} (ha : isAt d) (h : Dp K H v d) : Dp K H' v d := by
  cases d with
  | none => rw [dp_non h]; exact .non
  | bool k => cases h; exact .bl k
  | int i => rw [dp_int h]; exact .int i
  | str z => rw [dp_str h]; exact .str z
  | _ => exact ha.elim
theorem chain_t {g g' : PyData → PyData → Bool} (σ : L2.St) (H : Hp) (Q : VK) (h : PVt X.K (dChain g g' va vb vc) (nChain g g' va vb vc na nb nc) σ H Q) :
    tChain (rOrd X.K g) (rOrd X.K g') (PVt X.K va na) (PVt X.K vb nb) (PVt X.K vc nc) σ H Q := by
  obtain ⟨R, ρ, fps, gg, ⟨h1, h2, h3, h4, h5, h6⟩, k⟩ := h
  refine two ⟨R, ρ, fps, gg, h1, h2, fun x y R2 H2 fx fy p g2 rx ry dj => ?_⟩
  have kk : ∀ (q : Bool) R' H', PStep R H R' H' → q = (g (view ρ (va ρ)) (view ρ (vb ρ)) && g' (view ρ (vb ρ)) (view ρ (vc ρ))) → Q (.bl q) H' := fun q R' H' p' e =>
    k (.bl q) R' H' [] p' (by rw [e]; exact ⟨⟨.bl _, rfl⟩, List.nodup_nil, fun _ h => nomatch h⟩)
  refine ⟨_, _, rx.dp g2, ry.dp g2, h5.1, h5.2.1, h5.2.2, _, rfl, ?_⟩
  cases e : g (view ρ (va ρ)) (view ρ (vb ρ)) with
  | false =>
    rw [if_neg Bool.false_ne_true]
    exact kk false R2 H2 p (by rw [e]; rfl)
  | true =>
    rw [if_pos rfl]
    refine ⟨R2, ρ, fps, g2, h3, fun w R3 H3 fw p3 rw => ?_⟩
    obtain ⟨q1, q2, q3⟩ := h6 e
    exact ⟨_, _, at_dp h4 (ry.dp g2), rw.dp (g2.step p3), q1, q2, q3, kk _ R3 H3 (p.trans p3) (by rw [e]; rfl)⟩
theorem pv_chain {op op' : CmpOp} {g g' : PyData → PyData → Bool} (ho : OpR X (compareOp op) (rOrd X.K g)) (ho' : OpR X (compareOp op') (rOrd X.K g')) (ha : PV X a va na) (hb : PV X b vb nb) (hc : PV X c vc nc)
    (hm : lastMarks [op, op'] [b, c] = false := by with_unfolding_all rfl) : PV X (.Compare a [op, op'] [b, c] pos) (dChain g g' va vb vc) (nChain g g' va vb vc na nb nc) := pe_mono (pe_chain ho ho' ha hb hc hm) chain_t
theorem pvt_chain {op op' : CmpOp} {g g' : PyData → PyData → Bool} (ho : OpR X (compareOp op) (rOrd X.K g)) (ho' : OpR X (compareOp op') (rOrd X.K g')) (ha : PV X a va na) (hb : PV X b vb nb) (hc : PV X c vc nc)
    (hm : lastMarks [op, op'] [b, c] = false := by with_unfolding_all rfl) : PVT X (.Compare a [op, op'] [b, c] pos) (fun ρ => asB (view ρ (dChain g g' va vb vc ρ))) (nChain g g' va vb vc na nb nc) := by
  refine pt_mono (pt_chain ho ho' ha hb hc hm) fun σ H Q ⟨R, ρ, fps, gg, h1, k⟩ => ?_
  show tChain (rOrd X.K g) (rOrd X.K g') (PVt X.K va na) (PVt X.K vb nb) (PVt X.K vc nc) σ H (fun x H' => ∃ k, x = .bl k ∧ Q k H')
  exact chain_t σ H _ ⟨R, ρ, fps, gg, h1, fun v R1 H1 fv p r => ⟨_, view_bl (r.dp (gg.step p)) trivial, k R1 H1 p⟩⟩
end
/-! ## calls by name -/
section
variable {X : Cx} {kws : List Keyword} {va : Env → W} {na : Env → Prop} {vl : Env → List W} {nl : Env → Prop} {e : Expr}
abbrev PVK (X : Cx) (kws : List Keyword) (vl : Env → List W) (nd : Env → Prop) : Prop := PK X kws (PAt X.K vl nd)
theorem pk_mono {t t' : TA} (h : PK X kws t) (m : ∀ σ H Q, t' σ H Q → t σ H Q) : PK X kws t' := ⟨fun pos pins s σ H Q I q => h.run pos pins s σ H Q I (m σ H Q q)⟩
theorem pvk_nil : PVK X [] (fun _ => []) (fun _ => True) := pk_mono pk_nil fun σ H Q ⟨R, ρ, fps, g, _, k⟩ => k [] R H [] (.refl g.sub) ⟨rfl, rfl⟩
theorem pvk_cons {nm : Option Str} {kpos : Pos} (ha : PV X e va na) (hr : PVK X kws vl nl) : PVK X (⟨nm, e, kpos⟩ :: kws) (fun ρ => va ρ :: vl ρ) (fun ρ => na ρ ∧ nl ρ) := by
  refine pk_mono (pk_cons ha hr) fun σ H Q ⟨R, ρ, fps, g, ⟨h1, h2⟩, k⟩ => ?_
  refine ⟨R, ρ, fps, g, h1, fun x R1 H1 fx p1 r1 => ⟨R1, ρ, fps, g.step p1, h2, fun vs R2 H2 fv p2 r2 => ?_⟩⟩
  exact k _ R2 H2 _ (p1.trans p2) ⟨x, vs, fx, fv, rfl, r1.keep p2, r2.older p1.h, rfl, fun a h1 h2 => r1.on a h1 (r2.fresh a h2)⟩
end
/-- how a call by names binds: the keywords' names ks; idx: for each parameter the place of its keyword -/
def KB (K : PySem.W.Frag) (fd : FuncData) (ps ks : List Str) (idx : List Nat) : Prop :=
  ∀ (s : Shared) (ws : List Value), K.In s.heap → ws.length = ks.length → BindsTo s fd ⟨[], ks.zip ws⟩ (ps.zip (idx.map fun i => ws.getD i .none))
theorem HD.kb {K : PySem.W.Frag} {mg : Str → Option Value} {x : Str} {ps : List Str} {st : Stmt} {f : Addr} {fd : FuncData} (h : HD K mg x ps st f fd) {ks : List Str} {idx : List Nat}
    (hb : ∀ (kV doc pm : Value) (an : Option Addr) (cdv ct : Value) (ws : List Value), ws.length = ks.length → bindArgs (PySem.W.fnOf x x (defArgs st) (defBody st) (defScope st) .none kV doc pm an cdv ct) ⟨[], ks.zip ws⟩ = pure (ps.zip (idx.map fun i => ws.getD i .none))) : KB K fd ps ks idx := by
  obtain ⟨oc, od, kV, doc, pm, an, cdv, ct, osl, rfl, lk, hcd⟩ := h.2.1.ex
  exact fun s ws _ hl => .of_eq (hb kV doc pm an cdv ct ws hl)
theorem vals_getD {vs : List V} {us : List Value} (h : Vals vs us) (i : Nat) : RelV (vs.getD i .non) (us.getD i .none) := by
  induction h generalizing i with
  | nil => rfl
  | cons h _ ih =>
    cases i with
    | zero => exact h
    | succ i => simpa using ih i
theorem vals_idx {vs : List V} {us : List Value} (h : Vals vs us) : ∀ idx : List Nat, Vals (idx.map fun i => vs.getD i .non) (idx.map fun i => us.getD i .none)
  | [] => .nil
  | i :: idx => .cons (vals_getD h i) (vals_idx h idx)
theorem dpAll_getD {K : PySem.W.Frag} {R : Hp} {ds : List PyData} : ∀ {vs : List V}, DpAll K R vs ds → ∀ i : Nat, Dp K R (vs.getD i .non) (ds.getD i .none) := by
  induction ds with
  | nil => intro vs h i; cases h; exact .non
  | cons d ds ih =>
    intro vs h i
    cases h with
    | cons h1 h2 =>
      cases i with
      | zero => exact h1
      | succ i => simpa using ih h2 i
theorem dpAll_idx {K : PySem.W.Frag} {R : Hp} {vs : List V} {ds : List PyData} (h : DpAll K R vs ds) : ∀ idx : List Nat, DpAll K R (idx.map fun i => vs.getD i .non) (idx.map fun i => ds.getD i .none)
  | [] => .nil
  | i :: idx => .cons (dpAll_getD h i) (dpAll_idx h idx)
section
variable {X : Cx} {cx : CXT} {k : Nat} {f : Addr} {fd : FuncData} {ps ks : List Str} {idx : List Nat} {sp : Sp} {E : XK} {x : Str} {p pos : Pos} {kws : List Keyword} {tk : TA}
theorem pe_callGK (F : FnG X.prog X.w X.K X.mg X.base cx k f fd ps sp) (hgu : X.A.guards = some []) (hr : Room k X.A) (hm : X.mg x = some (.ref f)) (hk : PySem.W.keepIn X.K (.ref f) = true) (hb : KB X.K fd ps ks idx) (hx : Passes cx X E)
    (hkw : PK X kws tk) (hg : Gl X x := by rfl) (hd : (x == ("__debug__" : Str)) = false := by decide) (hall : (backToKw pos (keywordEach kws X.env)).all (·.1.isSome) = true := by rfl) (hks : (backToKw pos (keywordEach kws X.env)).filterMap (·.1) = ks := by rfl)
    (hpl : ((backTo pos (starEach [] X.env)).any (·.1) || (backToKw pos (keywordEach kws X.env)).any (·.1.isNone)) = false := by rfl) :
    PE X (.Call (.Name x p) [] kws pos) (fun σ H Q => tk σ H fun zs H1 => zs.length = ks.length ∧ sp (idx.map fun i => zs.getD i .non) H1 Q E) := by
  refine ⟨fun pins s σ H Q I h => wpAny_Call_Name_kw (ld_glob I hg hm ?_ hd)⟩
  refine PySem.W.callWith_KW0 (h₀ := X.base) I.ok.mod.kin hk hall (thn (hkw.run pos pins s σ H _ I h) fun ws s1 ⟨zs, H1, I1, rz, hz, q⟩ => ⟨I1.kIn, ?_⟩) hpl
  rw [hks]
  have rv := vals_idx rz idx
  have bt := hb s1 ws I1.kIn (by rw [← rz.length]; exact hz)
  refine wpAny_call (codeAny_mono (back_to I1 hx (F.go X.A X.stack s1 H1 ⟨[], ks.zip ws⟩ _ _ Q E hgu hr I1.env0 bt rv q)) fun r s' hq => ?_)
  cases r with
  | error z => exact hq
  | ok fl => cases fl <;> exact hq
theorem pv_callK {F : List PyData → FOut} {n : Nat} {vl : Env → List W} {nl : Env → Prop} (h : FnP X.prog X.w X.K X.mg X.base k x ps f fd (spP X.K F n)) (hb : KB X.K fd ps ks idx) (hgu : X.A.guards = some []) (hr : Room k X.A) (hkw : PVK X kws vl nl)
    (hg : Gl X x := by rfl) (hd : (x == ("__debug__" : Str)) = false := by decide) (hall : (backToKw pos (keywordEach kws X.env)).all (·.1.isSome) = true := by rfl) (hks : (backToKw pos (keywordEach kws X.env)).filterMap (·.1) = ks := by rfl)
    (hpl : ((backTo pos (starEach [] X.env)).any (·.1) || (backToKw pos (keywordEach kws X.env)).any (·.1.isNone)) = false := by rfl) :
    PV X (.Call (.Name x p) [] kws pos) (fun ρ => .o (F (idx.map fun i => ((vl ρ).map (view ρ)).getD i .none)).o) (fun ρ => nl ρ ∧ canShs ρ (vl ρ) ∧ (vl ρ).length = ks.length ∧ idx.length = n ∧ (F (idx.map fun i => ((vl ρ).map (view ρ)).getD i .none)).need) := by
  refine pe_mono (pe_callGK h.ok hgu hr h.at_ h.kp hb pass0 hkw hg hd hall hks hpl) fun σ H Q ⟨R, ρ, fps, g, ⟨h1, h2, h3, h4, h5⟩, q⟩ => ⟨R, ρ, fps, g, h1, fun vs R1 H1 fv p1 r => ?_⟩
  obtain ⟨R2, p2, _, o⟩ := r.shared g p1 h2
  refine ⟨by rw [dpAll_len o, List.length_map]; exact h3, R2, _, p2.sub, dpAll_idx o idx, by rw [List.length_map]; exact h4, h5, fun v R' H' fv p' ro => q v R' H' fv (p2.trans p') (ro.older p1.h).rw⟩
end
/-! ## displays that change what is owned; a, b, c = .. -/
section
variable {X : Cx} {pn : List Nat} {es : List Expr} {dl : Env → Outs} {pos : Pos}
theorem xv_lst (ha : XA X es dl) : XV X (.List es pos) (fun ρ => ⟨.o (.lst ((dl ρ).ws.map (view (dl ρ).env))), (dl ρ).env, (dl ρ).need ∧ canShs (dl ρ).env (dl ρ).ws ∧ (dl ρ).ws.length ≤ sizeLine⟩) := by
  refine pe_mono (pe_lst ha) fun σ H Q ⟨R, ρ, fps, g, ⟨h1, h2, h3⟩, k⟩ => ⟨R, ρ, fps, g, h1, fun vs R1 H1 fps1 fv a1 r => ?_⟩
  obtain ⟨R2, a2, _, o⟩ := r.frozen a1 h2
  refine ⟨by rw [dpAll_len o, List.length_map]; exact h3, fun a ha => ?_⟩
  obtain ⟨p3, ro⟩ := new_lst (.refl a2.g.sub) ha o
  exact k _ _ _ fps1 _ (a2.then p3) (ro.rx a2 p3)
theorem xv_tup {x1} (ha : XA X es dl) : XV X (.Tuple es x1 pos) (fun ρ => ⟨.o (.sh (.tuple ((dl ρ).ws.map (view (dl ρ).env)))), (dl ρ).env, (dl ρ).need ∧ canShs (dl ρ).env (dl ρ).ws ∧ (dl ρ).ws.length ≤ sizeLine⟩) := by
  refine pe_mono (pe_tup ha) fun σ H Q ⟨R, ρ, fps, g, ⟨h1, h2, h3⟩, k⟩ => ⟨R, ρ, fps, g, h1, fun vs R1 H1 fps1 fv a1 r => ?_⟩
  obtain ⟨R2, a2, _, o⟩ := r.frozen a1 h2
  refine ⟨by rw [dpAll_len o, List.length_map]; exact h3, fun a ha => ?_⟩
  obtain ⟨p3, ro⟩ := new_tup (.refl a2.g.sub) ha o
  exact k _ _ _ fps1 _ (a2.then p3) (ro.rx a2 p3)
@[simp ↓] def dPar3 (i j l : Nat) (dl : Env → Outs) : TEnds → Env → Prop := fun T ρ => (dl ρ).need ∧ (dl ρ).ws.length = 3 ∧ canShs (dl ρ).env (dl ρ).ws ∧ i < (dl ρ).env.length ∧ j < (dl ρ).env.length ∧ l < (dl ρ).env.length ∧
  T.nx ((((dl ρ).env.set i (some (.sh (view (dl ρ).env ((dl ρ).ws.getD 0 (.al 0)))))).set j (some (.sh (view (dl ρ).env ((dl ρ).ws.getD 1 (.al 0)))))).set l (some (.sh (view (dl ρ).env ((dl ρ).ws.getD 2 (.al 0))))))
theorem xs_par3 (i j l : Nat) {x y z : Str} {a b c : Expr} {px py pz pt : Pos} {kt k2 pt2} (hc : X.calm = true) (hN : X.N.Nodup) (ha : XA X [a, b, c] dl) (hi : X.N[i]? = some x := by rfl) (hj : X.N[j]? = some y := by rfl) (hl : X.N[l]? = some z := by rfl)
    (hij : i ≠ j := by decide) (hil : i ≠ l := by decide) (hjl : j ≠ l := by decide) (hpi : i ∉ pn := by decide) (hpj : j ∉ pn := by decide) (hpl : l ∉ pn := by decide)
    (hx : X.env.scope.names.lookup x = some .local := by rfl) (hy : X.env.scope.names.lookup y = some .local := by rfl) (hz : X.env.scope.names.lookup z = some .local := by rfl)
    (hw : swappedStores [.Tuple [.Name x px, .Name y py, .Name z pz] kt pt] (.Tuple [a, b, c] k2 pt2) X.env = pure (some [x, y, z]) := by rfl)
    (hs : swapsWithSole [.Tuple [.Name x px, .Name y py, .Name z pz] kt pt] (.Tuple [a, b, c] k2 pt2) pos.line X.env = pure false := by rfl) : XS X pn (.Assign [.Tuple [.Name x px, .Name y py, .Name z pz] kt pt] (.Tuple [a, b, c] k2 pt2) pos) (dPar3 i j l dl) := by
  refine ps_mono (ps_par3 hc hN hi hj hl hij hil hjl hx hy hz ha hw hs) fun D σ H ⟨R, ρ, fps, T, g, ⟨n1, n2, n3, n4, n5, n6, n7⟩, E⟩ => ⟨R, ρ, fps, g, n1, fun vs R1 H1 fps1 fv a1 r => ?_⟩
  obtain ⟨R2, a2, _, q⟩ := r.frozen a1 n3
  generalize (dl ρ).ws = ws at *
  match ws, n2 with
  | [w1, w2, w3], _ =>
    cases q with
    | cons q1 q =>
      cases q with
      | cons q2 q =>
        cases q with
        | cons q3 q =>
          cases q
          refine ⟨_, _, _, rfl, ?_⟩
          have a3 := a2.set n4 (shRX (H := H) (fps := fps) q1)
          have a4 := a3.set (i := j) (by rw [List.length_set]; exact n5) (shRX (H := H) (fps := fps) q2)
          have a5 := a4.set (i := l) (by rw [List.length_set, List.length_set]; exact n6) (shRX (H := H) (fps := fps) q3)
          refine E.nx _ H1 _ _ _ a5 (fun m hm => ?_) n7
          have z1 : i ≠ m := fun z => hpi (by rw [z]; exact hm)
          have z2 : j ≠ m := fun z => hpj (by rw [z]; exact hm)
          have z3 : l ≠ m := fun z => hpl (by rw [z]; exact hm)
          rw [List.getElem?_set_ne z3, List.getElem?_set_ne z2, List.getElem?_set_ne z1]
end
/-! what a reading may be replaced by -/
theorem xv_as {X : Cx} {e : Expr} {da : Env → Out} (h : XV X e da) (db : Env → Out) (m : ∀ ρ, (db ρ).need → (da ρ).need ∧ (da ρ).w = (db ρ).w ∧ (da ρ).env = (db ρ).env) : XV X e db :=
  pe_mono h fun σ H Q ⟨R, ρ, fps, g, hn, k⟩ => by
    obtain ⟨n, e1, e2⟩ := m ρ hn
    exact ⟨R, ρ, fps, g, n, fun v R' H' fps' fv a r => k v R' H' fps' fv (by rw [← e2]; exact a) (by rw [← e1, ← e2]; exact r)⟩
theorem pv_as {X : Cx} {e : Expr} {va : Env → W} {na : Env → Prop} (h : PV X e va na) (vb : Env → W) (nb : Env → Prop) (m : ∀ ρ, nb ρ → na ρ ∧ va ρ = vb ρ) : PV X e vb nb :=
  pe_mono h fun σ H Q ⟨R, ρ, fps, g, hn, k⟩ => by
    obtain ⟨n, e1⟩ := m ρ hn
    exact ⟨R, ρ, fps, g, n, fun v R' H' fv p r => k v R' H' fv p (by rw [← e1]; exact r)⟩
end TL
set_option linter.all false
set_option maxRecDepth 100000
set_option maxHeartbeats 1000000
set_option autoImplicit false
namespace TL
open PySem PySem.Spec PyProof.Rows L2
/-! ## texts as lists of signs -/
def S (l : List Nat) : Str := ⟨l.toArray⟩
def L (x : Str) : List Nat := x.cps.toList
@[simp] theorem L_S (l : List Nat) : L (S l) = l := rfl
@[simp] theorem S_L (x : Str) : S (L x) = x := str_ext rfl
@[simp] theorem S_inj {a b : List Nat} : S a = S b ↔ a = b := ⟨fun h => congrArg L h, fun h => by rw [h]⟩
@[simp] theorem S_cps (a : List Nat) : (S a).cps.toList = a := rfl
@[simp] theorem S_len (a : List Nat) : (S a).length = a.length := by simp [S, Str.length]
@[simp] theorem S_app (a b : List Nat) : S a ++ S b = S (a ++ b) := str_ext (by show (_ ++ _ : Array Nat).toList = _; simp [S])
@[simp] theorem S_empty : Str.empty = S [] := rfl
theorem S_cases (x : Str) : ∃ l, x = S l := ⟨L x, (S_L x).symm⟩
/-! ## data -/
def cutG {α : Type} (xs : List α) (lo hi : Option Int) : List α := (xs.drop (HT.sIx xs.length 0 lo)).take (HT.sIx xs.length xs.length hi - HT.sIx xs.length 0 lo)
@[simp] theorem cutS_S (a : List Nat) (lo hi : Option Int) : cutS (S a) lo hi = S (cutG a lo hi) := by
  apply str_ext
  rw [S_cps]
  unfold cutS cutG
  rw [S_len, S_cps]
theorem cutL_cutG (xs : List PyData) (lo hi : Option Int) : cutL xs lo hi = cutG xs lo hi := rfl
@[simp] theorem cutL_map {α : Type} (f : α → PyData) (xs : List α) (lo hi : Option Int) : cutL (xs.map f) lo hi = (cutG xs lo hi).map f := by
  unfold cutL cutG
  rw [List.length_map, List.map_take, List.map_drop]
theorem cutG_to {α : Type} (xs : List α) (i : Int) (h : 0 ≤ i) : cutG xs none (some i) = xs.take i.toNat := by
  have h1 : ¬ i < 0 := by omega
  unfold cutG HT.sIx
  simp only [List.drop_zero, if_neg h1, Nat.sub_zero]
  by_cases q : i.toNat ≤ xs.length
  · rw [Nat.min_eq_left q]
  · rw [Nat.min_eq_right (by omega), List.take_length, List.take_of_length_le (by omega)]
theorem cutG_from {α : Type} (xs : List α) (i : Int) (h : 0 ≤ i) : cutG xs (some i) none = xs.drop i.toNat := by
  have h1 : ¬ i < 0 := by omega
  unfold cutG HT.sIx
  simp only [if_neg h1]
  by_cases q : i.toNat ≤ xs.length
  · rw [Nat.min_eq_left q, List.take_of_length_le (by rw [List.length_drop]; omega)]
  · rw [Nat.min_eq_right (by omega), Nat.sub_self, List.take_zero, List.drop_of_length_le (by omega)]
theorem cutG_fromNeg {α : Type} (xs : List α) (i : Int) (h : i < 0) : cutG xs (some i) none = xs.drop (i + xs.length).toNat := by
  unfold cutG HT.sIx
  simp only [if_pos h]
  rw [List.take_of_length_le (by rw [List.length_drop]; omega)]
@[simp] theorem cutG_toN {α : Type} (xs : List α) (k : Nat) : cutG xs none (some (k : Int)) = xs.take k := by rw [cutG_to xs _ (by omega), Int.toNat_natCast]
@[simp] theorem cutG_fromN {α : Type} (xs : List α) (k : Nat) : cutG xs (some (k : Int)) none = xs.drop k := by rw [cutG_from xs _ (by omega), Int.toNat_natCast]
theorem cutG_to1 {α : Type} (xs : List α) (k : Nat) : cutG xs none (some (OfNat.ofNat k)) = xs.take k := cutG_toN xs k
theorem beq_dec {α : Type} [BEq α] [LawfulBEq α] [DecidableEq α] (a b : α) : (a == b) = decide (a = b) := by rw [Bool.eq_iff_iff, beq_iff_eq, decide_eq_true_eq]
@[simp] theorem eqv_str (a b : List Nat) : PyData.eqv (.str (S a)) (.str (S b)) = decide (a = b) := by
  have h : PyData.eqv (.str (S a)) (.str (S b)) = (S a == S b) := by simp only [PyData.eqv]
  rw [h, beq_dec]
  exact decide_eq_decide.mpr S_inj
@[simp] theorem eqv_int (a b : Int) : PyData.eqv (.int a) (.int b) = decide (a = b) := by
  have h : PyData.eqv (.int a) (.int b) = (a == b) := by simp only [PyData.eqv]
  rw [h, beq_dec]
@[simp] theorem eqv_bool (a b : Bool) : PyData.eqv (.bool a) (.bool b) = decide (a = b) := by
  have h : PyData.eqv (.bool a) (.bool b) = (a == b) := by simp only [PyData.eqv]
  rw [h, beq_dec]
@[simp] theorem eqv_list (a b : List PyData) : PyData.eqv (.list a) (.list b) = PyData.eqvAll a b := by simp only [PyData.eqv]
@[simp] theorem eqv_tuple (a b : List PyData) : PyData.eqv (.tuple a) (.tuple b) = PyData.eqvAll a b := by simp only [PyData.eqv]
@[simp] theorem eqvAll_nil : PyData.eqvAll [] [] = true := by simp only [PyData.eqvAll]
@[simp] theorem eqvAll_cons (x y : PyData) (xs ys : List PyData) : PyData.eqvAll (x :: xs) (y :: ys) = (PyData.eqv x y && PyData.eqvAll xs ys) := by simp only [PyData.eqvAll]
@[simp] theorem eqvAll_nc (x : PyData) (xs : List PyData) : PyData.eqvAll [] (x :: xs) = false := by simp only [PyData.eqvAll]
@[simp] theorem eqvAll_cn (x : PyData) (xs : List PyData) : PyData.eqvAll (x :: xs) [] = false := by simp only [PyData.eqvAll]
@[simp] theorem eqvAll_mapn {α : Type} (f : α → PyData) (xs : List α) : PyData.eqvAll (xs.map f) [] = xs.isEmpty := by
  cases xs with
  | nil => rw [List.map_nil, eqvAll_nil]; rfl
  | cons x xs => rw [List.map_cons, eqvAll_cn]; rfl
theorem eqvAll_map {α : Type} [DecidableEq α] (f : α → PyData) (h : ∀ a b, PyData.eqv (f a) (f b) = decide (a = b)) : ∀ xs ys : List α, PyData.eqvAll (xs.map f) (ys.map f) = decide (xs = ys)
  | [], [] => by simp
  | [], y :: ys => by simp
  | x :: xs, [] => by simp
  | x :: xs, y :: ys => by
    rw [List.map_cons, List.map_cons, eqvAll_cons, h, eqvAll_map f h xs ys, ← Bool.decide_and]
    exact decide_eq_decide.mpr (by rw [List.cons.injEq])
@[simp] theorem eqvAll_strs (xs ys : List (List Nat)) : PyData.eqvAll (xs.map fun w => .str (S w)) (ys.map fun w => .str (S w)) = decide (xs = ys) := eqvAll_map _ eqv_str xs ys
@[simp] theorem eqvAll_ints (xs ys : List Int) : PyData.eqvAll (xs.map .int) (ys.map .int) = decide (xs = ys) := eqvAll_map _ eqv_int xs ys
@[simp] theorem any_str (xs : List (List Nat)) (a : List Nat) : (xs.map fun w => PyData.str (S w)).any (fun y => PyData.eqv y (.str (S a))) = decide (a ∈ xs) := by
  induction xs with
  | nil => rfl
  | cons x xs ih =>
    rw [List.map_cons, List.any_cons, ih, eqv_str, ← Bool.decide_or]
    exact decide_eq_decide.mpr (by rw [List.mem_cons]; exact or_congr_left eq_comm)
@[simp] theorem any_int (xs : List Int) (a : Int) : (xs.map PyData.int).any (fun y => PyData.eqv y (.int a)) = decide (a ∈ xs) := by
  induction xs with
  | nil => rfl
  | cons x xs ih =>
    rw [List.map_cons, List.any_cons, ih, eqv_int, ← Bool.decide_or]
    exact decide_eq_decide.mpr (by rw [List.mem_cons]; exact or_congr_left eq_comm)
@[simp] theorem plain_none : PyData.plain .none = true := rfl
@[simp] theorem plain_bool (b : Bool) : PyData.plain (.bool b) = true := rfl
@[simp] theorem plain_int (i : Int) : PyData.plain (.int i) = true := rfl
@[simp] theorem plain_str (z : Str) : PyData.plain (.str z) = true := rfl
@[simp] theorem plain_list (xs : List PyData) : PyData.plain (.list xs) = PyData.plainAll xs := rfl
@[simp] theorem plain_tuple (xs : List PyData) : PyData.plain (.tuple xs) = PyData.plainAll xs := rfl
@[simp] theorem plainAll_nil : PyData.plainAll [] = true := rfl
@[simp] theorem plainAll_cons (x : PyData) (xs : List PyData) : PyData.plainAll (x :: xs) = (x.plain && PyData.plainAll xs) := rfl
theorem plainAll_iff : ∀ xs : List PyData, PyData.plainAll xs = true ↔ ∀ d ∈ xs, d.plain = true
  | [] => by simp
  | x :: xs => by simp [plainAll_iff xs]
@[simp] theorem plainAll_map {α : Type} (f : α → PyData) (xs : List α) : PyData.plainAll (xs.map f) = true ↔ ∀ x ∈ xs, (f x).plain = true := by rw [plainAll_iff]; simp
@[simp] theorem depth_none : PyData.depth .none = 0 := rfl
@[simp] theorem depth_bool (b : Bool) : PyData.depth (.bool b) = 0 := rfl
@[simp] theorem depth_int (i : Int) : PyData.depth (.int i) = 0 := rfl
@[simp] theorem depth_str (z : Str) : PyData.depth (.str z) = 0 := rfl
@[simp] theorem depth_list (xs : List PyData) : PyData.depth (.list xs) = PyData.depthAll xs + 1 := by simp only [PyData.depth]
@[simp] theorem depth_tuple (xs : List PyData) : PyData.depth (.tuple xs) = PyData.depthAll xs + 1 := by simp only [PyData.depth]
@[simp] theorem depthAll_nil : PyData.depthAll [] = 0 := rfl
@[simp] theorem depthAll_cons (x : PyData) (xs : List PyData) : PyData.depthAll (x :: xs) = max x.depth (PyData.depthAll xs) := by simp only [PyData.depthAll]
theorem depthAll_le : ∀ (xs : List PyData) (n : Nat), PyData.depthAll xs ≤ n ↔ ∀ d ∈ xs, d.depth ≤ n
  | [], n => by simp
  | x :: xs, n => by simp [depthAll_le xs n, Nat.max_le]
@[simp] theorem depthAll_map {α : Type} (f : α → PyData) (xs : List α) (n : Nat) : PyData.depthAll (xs.map f) ≤ n ↔ ∀ x ∈ xs, (f x).depth ≤ n := by rw [depthAll_le]; simp
@[simp] theorem min_le_60 (a b n : Nat) : min a b ≤ n ↔ a ≤ n ∨ b ≤ n := by omega
@[simp] theorem alike_int (a b : Int) : PySem.W.alike (.int a) (.int b) = true := rfl
@[simp] theorem alike_str (a b : Str) : PySem.W.alike (.str a) (.str b) = true := rfl
@[simp] theorem alike_bool (a b : Bool) : PySem.W.alike (.bool a) (.bool b) = true := rfl
@[simp] theorem alike_list (a b : List PyData) : PySem.W.alike (.list a) (.list b) = PySem.W.alikeAll a b := rfl
@[simp] theorem alike_tuple (a b : List PyData) : PySem.W.alike (.tuple a) (.tuple b) = PySem.W.alikeAll a b := rfl
@[simp] theorem alikeAll_nil (b : List PyData) : PySem.W.alikeAll [] b = true := by cases b <;> rfl
@[simp] theorem alikeAll_nil2 (b : List PyData) : PySem.W.alikeAll b [] = true := by cases b <;> rfl
@[simp] theorem alikeAll_cons (a b : PyData) (as bs : List PyData) : PySem.W.alikeAll (a :: as) (b :: bs) = (PySem.W.alike a b && PySem.W.alikeAll as bs) := rfl
theorem alikeAll_map {α β : Type} (f : α → PyData) (g : β → PyData) (h : ∀ a b, PySem.W.alike (f a) (g b) = true) : ∀ (xs : List α) (ys : List β), PySem.W.alikeAll (xs.map f) (ys.map g) = true
  | [], _ => by simp
  | _ :: _, [] => by simp
  | x :: xs, y :: ys => by simp [h, alikeAll_map f g h xs ys]
@[simp] theorem lt_str (a b : List Nat) : PySem.W.dataLt (.str (S a)) (.str (S b)) = decide (a < b) := PySem.W.dataLt_str _ _
@[simp] theorem lt_int (a b : Int) : PySem.W.dataLt (.int a) (.int b) = decide (a < b) := PySem.W.dataLt_int _ _
theorem lt_tuple_cons (x y : PyData) (xs ys : List PyData) (h : PySem.W.alike x y = true) : PySem.W.dataLt (.tuple (x :: xs)) (.tuple (y :: ys)) = if PyData.eqv x y = true then PySem.W.dataLt (.tuple xs) (.tuple ys) else PySem.W.dataLt x y := by
  rw [PySem.W.dataLt_tuple, PySem.W.dataLt_tuple]
  cases e : PyData.eqv x y with
  | true => rw [if_pos rfl]; exact PySem.W.dataLt_all_yes h e
  | false => rw [if_neg Bool.false_ne_true]; exact PySem.W.dataLt_all_no h e
@[simp] theorem lt_tuple_nil : PySem.W.dataLt (.tuple []) (.tuple []) = false := by decide +kernel
@[simp] theorem isAt_int (i : Int) : isAt (.int i) := trivial
@[simp] theorem isAt_str (i : Str) : isAt (.str i) := trivial
@[simp] theorem isAt_bool (i : Bool) : isAt (.bool i) := trivial
@[simp] theorem isAt_none : isAt .none := trivial
@[simp] theorem one_line : 1 ≤ sizeLine := by decide
/-! ### text in text -/
def isIn (a b : List Nat) : Bool := sIn (S a) (S b)
@[simp] theorem sIn_S (a b : List Nat) : sIn (S a) (S b) = isIn a b := rfl
theorem isIn_iff (a b : List Nat) : isIn a b = true ↔ ∃ p q, b = p ++ a ++ q := by
  unfold isIn sIn
  rw [PySem.StrLaws.found_iff]
  simp only [S_len, PySem.StrLaws.subAt_eq, S_cps, beq_iff_eq]
  constructor
  · rintro ⟨i, h1, h2⟩
    refine ⟨b.take i, b.drop (i + a.length), ?_⟩
    have e1 : (b.drop i) = (b.drop i).take a.length ++ (b.drop i).drop a.length := (List.take_append_drop _ _).symm
    rw [h2, List.drop_drop] at e1
    rw [List.append_assoc, ← e1, List.take_append_drop]
  · rintro ⟨p, q, rfl⟩
    refine ⟨p.length, by simp, ?_⟩
    simp
end TL
set_option linter.all false
set_option maxRecDepth 100000
set_option maxHeartbeats 1000000
set_option autoImplicit false
namespace TL
open PySem PySem.Spec PyProof.Rows L2
/-! ## promises over Lean's own types -/
open Classical in
noncomputable def liftP {α : Type} (enc : α → List PyData) (F : α → FOut) (ds : List PyData) : FOut := if h : ∃ x, enc x = ds then F h.choose else ⟨.sh .none, False⟩
theorem liftP_eq {α : Type} {enc : α → List PyData} {F : α → FOut} (inj : ∀ x y, enc x = enc y → x = y) (x : α) : liftP enc F (enc x) = F x := by
  have h : ∃ y, enc y = enc x := ⟨x, rfl⟩
  unfold liftP
  rw [dif_pos h, inj _ _ h.choose_spec]
theorem liftP_need {α : Type} {enc : α → List PyData} {F : α → FOut} {ds : List PyData} (h : (liftP enc F ds).need) : ∃ x, ds = enc x ∧ liftP enc F ds = F x := by
  unfold liftP at h ⊢
  by_cases e : ∃ x, enc x = ds
  · rw [dif_pos e]; exact ⟨e.choose, e.choose_spec.symm, rfl⟩
  · rw [dif_neg e] at h; exact h.elim
open Classical in
noncomputable def liftB {α : Type} (enc : α → O × List PyData) (F : α → BOut) (b : O) (ds : List PyData) : BOut := if h : ∃ x, enc x = (b, ds) then F h.choose else ⟨.sh .none, .sh .none, False⟩
theorem liftB_eq {α : Type} {enc : α → O × List PyData} {F : α → BOut} (inj : ∀ x y, enc x = enc y → x = y) (x : α) : liftB enc F (enc x).1 (enc x).2 = F x := by
  have h : ∃ y, enc y = ((enc x).1, (enc x).2) := ⟨x, rfl⟩
  unfold liftB
  rw [dif_pos h, inj _ _ h.choose_spec]
theorem liftB_need {α : Type} {enc : α → O × List PyData} {F : α → BOut} {b : O} {ds : List PyData} (h : (liftB enc F b ds).need) : ∃ x, (b, ds) = enc x ∧ liftB enc F b ds = F x := by
  unfold liftB at h ⊢
  by_cases e : ∃ x, enc x = (b, ds)
  · rw [dif_pos e]; exact ⟨e.choose, e.choose_spec.symm, rfl⟩
  · rw [dif_neg e] at h; exact h.elim
section
variable {P : Program} {w : World} {K : PySem.W.Frag} {mg : Str → Option Value} {base : Heap}
theorem fnT {α : Type} {enc : α → List PyData} {F : α → FOut} {k : Nat} {x : Str} {ps N : List Str} {st : Stmt} {f : Addr} {fd : FuncData} {den : TEnds → Env → Prop} (h : HD K mg x ps st f fd) (S : FnScope N ps (defScope st))
    (body : ∀ (cdv : Value) (A : Around) (out : List PySem.Env) (s : Shared) (H : Hp) (E : XK), (A.deeper (envOfC x (defScope st) s.heap.objs.size f cdv)).guards = some [] → Room k (A.deeper (envOfC x (defScope st) s.heap.objs.size f cdv)) →
      XSs (bodyCx P w K mg base N x st f cdv A out s H E) [] (defBody st) den)
    (pure : ∀ y, (F y).need → den (endP (F y)) (envP N (enc y))) : FnP P w K mg base (k + 1) x ps f fd (spP K (liftP enc F) ps.length) :=
  fnP h S body fun ds _ hn => by
    obtain ⟨y, e, q⟩ := liftP_need hn
    rw [q] at hn ⊢
    rw [e]; exact pure y hn
theorem fnBT {α : Type} {enc : α → O × List PyData} {F : α → BOut} {k : Nat} {x : Str} {ps N : List Str} {st : Stmt} {f : Addr} {fd : FuncData} {den : TEnds → Env → Prop} (h : HD K mg x ps st f fd) (S : FnScope N ps (defScope st))
    (body : ∀ (cdv : Value) (A : Around) (out : List PySem.Env) (s : Shared) (H : Hp) (E : XK), (A.deeper (envOfC x (defScope st) s.heap.objs.size f cdv)).guards = some [] → Room k (A.deeper (envOfC x (defScope st) s.heap.objs.size f cdv)) →
      XSs (bodyCx P w K mg base N x st f cdv A out s H E) [0] (defBody st) den)
    (pure : ∀ y, (F y).need → den (endB (F y)) (envB N (enc y).1 (enc y).2)) : FnP P w K mg base (k + 1) x ps f fd (spB K (liftB enc F) ps.length) :=
  fnB h S body fun b ds _ hn => by
    obtain ⟨y, e, q⟩ := liftB_need hn
    rw [q] at hn ⊢
    have e1 : b = (enc y).1 := congrArg Prod.fst e
    have e2 : ds = (enc y).2 := congrArg Prod.snd e
    rw [e1, e2]; exact pure y hn
end
/-! ## powers of great numbers -/
section
variable {X : Cx} {a b : Expr} {va vb : Env → W} {na nb : Env → Prop} {pos : Pos}
def CPowW (i j : Int) : Prop := 0 ≤ j ∧ j ≤ 1000 ∧ i.natAbs < 2 ^ 1000
theorem op_powW : OpR X (binaryOp .Pow) (rI CPowW fun i j => .int (i ^ j.toNat)) := opI fun i j _ _ _ _ _ hc q => by
  refine pow_int hc.1 ?_ q
  have b : Builtin.Int.intBits i ≤ 1000 := by
    have h2 : i.natAbs.log2 < 1000 := PySem.Flt.log2_lt_of (by decide) hc.2.2
    unfold Builtin.Int.intBits
    split <;> omega
  have h1 := hc.1
  have h2 := hc.2.1
  generalize Builtin.Int.intBits i = m at b
  have q1 : (m : Int) * j ≤ 1000 * j := Int.mul_le_mul_of_nonneg_right (by omega) h1
  omega
theorem pv_powW (ha : PV X a va na) (hb : PV X b vb nb) : PV X (.BinOp a .Pow b pos) (pv2 (fun d e => .sh (dI2 (fun i j => .int (i ^ j.toNat)) d e)) va vb) (pn2 (nI2 CPowW) va vb na nb) := pv_bin (pe_op op_powW ha hb) con_rI
end
end TL
set_option linter.all false
set_option maxRecDepth 100000
set_option maxHeartbeats 1000000
set_option autoImplicit false
namespace TL
open PySem PySem.Spec PyProof.Rows L2
section
variable {X : Cx} {pn : List Nat} {pos : Pos}
/-- an expression's value dropped -/
@[simp ↓] def dExp (da : Env → Out) : TEnds → Env → Prop := fun T ρ => (da ρ).need ∧ T.nx (da ρ).env
theorem xs_expr {e : Expr} {da : Env → Out} (he : XV X e da) (hsw : swapsWith e none pos.line X.env = pure false := by rfl) : XS X pn (.Expr e pos) (dExp da) :=
  ps_mono (ps_expr he hsw) fun D σ H ⟨R, ρ, fps, T, g, ⟨h1, h2⟩, E⟩ => ⟨R, ρ, fps, g, h1, fun v R1 H1 fps1 fv a r => E.nx R1 H1 σ _ fps1 a (fun _ _ => rfl) h2⟩
theorem pts_mono {es : List Expr} {t t' : TT} (h : PTs X es t) (m : ∀ σ H Q, t' σ H Q → t σ H Q) : PTs X es t' := ⟨fun pins s σ H Q I q => h.run pins s σ H Q I (m σ H Q q)⟩
theorem pvts_nil : PTs X [] (PTt X.K (fun _ => true) fun _ => True) := pts_mono pts_nil fun σ H Q ⟨R, ρ, fps, g, _, k⟩ => k R H (.refl g.sub)
theorem pvts_one {c : Expr} {b : Env → Bool} {n : Env → Prop} (h : PVT X c b n) : PTs X [c] (PTt X.K b n) := pts_one h
end
theorem for_rng {di : Env → OutI} {tg : PyData → Env → Env} {nt : PyData → Prop} {ix : List Nat} {body : TEnds → Env → Prop} {T : TEnds} {ρ : Env} (n : Nat) (f : Nat → PyData) (ρ1 : Env) (I : Nat → Env → Prop) (hd : di ρ = ⟨(List.range n).map f, ρ1, (di ρ).need⟩) (h0 : (di ρ).need) (h1 : I 0 ρ1)
    (h2 : ∀ i ρ', i < n → I i ρ' → nt (f i) ∧ (∀ j ∈ ix, j < ρ'.length) ∧ body { nx := I (i + 1), rt := T.rt, bk := T.nx, ct := I (i + 1) } (tg (f i) ρ')) (h3 : ∀ ρ', I n ρ' → T.nx ρ') : dFor di tg nt ix body T ρ := by
  refine for_i (List.range n) f ρ1 I hd h0 h1 (fun i x ρ' e hI => ?_) (fun ρ' h => h3 ρ' (by simpa using h))
  obtain ⟨hl, e'⟩ := List.getElem?_eq_some_iff.mp e
  rw [List.getElem_range] at e'
  subst e'
  exact h2 i ρ' (by simpa using hl) hI
@[simp] theorem seqOf_S (l : List Nat) : seqOf (.str (S l)) = l.map fun c => PyData.str (S [c]) := rfl
@[simp] theorem mk_one (c : Nat) : (⟨#[c]⟩ : Str) = S [c] := rfl
@[simp] theorem lt_line (n : Nat) : n < sizeLine ↔ n < 16777216 := Iff.rfl
@[simp] theorem le_line (n : Nat) : n ≤ sizeLine ↔ n ≤ 16777216 := Iff.rfl
@[simp] theorem small_nat (n : Nat) : small62 (n : Int) ↔ n < 2 ^ 62 := by unfold small62; omega
@[simp] theorem small_0 : small62 0 := by unfold small62; omega
@[simp] theorem small_1 : small62 1 := by unfold small62; omega
@[simp] theorem rng1_eq (j : Int) : rng1 j = (List.range j.toNat).map fun (i : Nat) => PyData.int (i : Int) := rfl
@[simp] theorem rng2_eq (i j : Int) : rng2 i j = (List.range (j - i).toNat).map fun (k : Nat) => PyData.int (i + (k : Int)) := rfl
theorem rngDown_nat (n : Nat) : rngDown (n : Int) 0 = (List.range n).map fun (i : Nat) => PyData.int ((n : Int) - (i : Int)) := by simp [rngDown]
theorem ixN_nat (n k : Nat) : ixN n (k : Int) = if k < n then some k else none := by
  unfold ixN
  rw [if_pos (by omega)]
  by_cases h : k < n
  · rw [if_pos (by omega), if_pos h]; simp
  · rw [if_neg (by omega), if_neg h]
@[simp] theorem ixN_n (n k : Nat) : ixN n (k : Int) = if k < n then some k else none := ixN_nat n k
@[simp] theorem ixN_0 (n : Nat) : ixN n 0 = if 0 < n then some 0 else none := ixN_nat n 0
@[simp] theorem ixN_1 (n : Nat) : ixN n 1 = if 1 < n then some 1 else none := ixN_nat n 1
@[simp] theorem ixN_2 (n : Nat) : ixN n 2 = if 2 < n then some 2 else none := ixN_nat n 2
theorem atI_at {α : Type} (xs : List α) (i : Int) (k : Nat) (h : i = (k : Int)) : atI xs i = xs[k]? := by
  subst h
  unfold atI
  rw [ixN_nat]
  by_cases h : k < xs.length
  · rw [if_pos h]; rfl
  · rw [if_neg h, List.getElem?_eq_none (by omega)]; rfl
@[simp] theorem atI_nat' {α : Type} (xs : List α) (k : Nat) : atI xs (k : Int) = xs[k]? := atI_at xs _ k rfl
@[simp] theorem atI_0 {α : Type} (xs : List α) : atI xs 0 = xs[0]? := atI_at xs 0 0 rfl
@[simp] theorem atI_1 {α : Type} (xs : List α) : atI xs 1 = xs[1]? := atI_at xs 1 1 rfl
@[simp] theorem atI_2 {α : Type} (xs : List α) : atI xs 2 = xs[2]? := atI_at xs 2 2 rfl
@[simp] theorem atI_map {α β : Type} (f : α → β) (xs : List α) (i : Int) : atI (xs.map f) i = (atI xs i).map f := by
  unfold atI
  rw [List.length_map]
  cases ixN xs.length i with
  | none => rfl
  | some j => simp
@[simp] theorem one_lt (c d : Nat) : ([c] < [d]) ↔ c < d := by simp [List.cons_lt_cons_iff]
theorem if_min (a b : Nat) : (if a < b then (a : Int) else (b : Int)) = ((min b a : Nat) : Int) := by split <;> omega
theorem map_S_inj {a b : List (List Nat)} : (a.map fun w => PyData.str (S w)) = (b.map fun w => PyData.str (S w)) ↔ a = b :=
  ⟨fun h => (List.map_inj_right (f := fun w => PyData.str (S w)) fun x y e => by simpa using e).mp h, fun h => by rw [h]⟩
theorem map_int_inj {a b : List Int} : a.map PyData.int = b.map PyData.int ↔ a = b :=
  ⟨fun h => (List.map_inj_right (f := PyData.int) fun x y e => by simpa using e).mp h, fun h => by rw [h]⟩
/-! ## the least -/
def pick {α : Type} (lt : α → α → Bool) (x : α) (xs : List α) : α := xs.foldl (fun a y => if lt y a then y else a) x
theorem minD_map {α : Type} (f : α → PyData) (lt : α → α → Bool) (h : ∀ a b, PySem.W.dataLt (f a) (f b) = lt a b) (x : α) (xs : List α) : PySem.W.minD (f x) (xs.map f) = f (pick lt x xs) := by
  unfold PySem.W.minD pick
  induction xs generalizing x with
  | nil => rfl
  | cons y ys ih =>
    rw [List.map_cons, List.foldl_cons, List.foldl_cons, h]
    by_cases q : lt y x = true
    · rw [if_pos q, if_pos q]; exact ih y
    · rw [if_neg q, if_neg q]; exact ih x
theorem maxD_map {α : Type} (f : α → PyData) (lt : α → α → Bool) (h : ∀ a b, PySem.W.dataLt (f a) (f b) = lt a b) (x : α) (xs : List α) : PySem.W.maxD (f x) (xs.map f) = f (pick (fun a b => lt b a) x xs) := by
  unfold PySem.W.maxD pick
  induction xs generalizing x with
  | nil => rfl
  | cons y ys ih =>
    rw [List.map_cons, List.foldl_cons, List.foldl_cons, h]
    by_cases q : lt x y = true
    · rw [if_pos q, if_pos q]; exact ih y
    · rw [if_neg q, if_neg q]; exact ih x
theorem pick_mem {α : Type} (lt : α → α → Bool) (x : α) (xs : List α) : pick lt x xs ∈ x :: xs := by
  unfold pick
  induction xs generalizing x with
  | nil => exact List.mem_cons_self
  | cons y ys ih =>
    rw [List.foldl_cons]
    have q := ih (if lt y x = true then y else x)
    rcases List.mem_cons.mp q with e | e
    · rw [e]; split
      · exact List.mem_cons_of_mem _ List.mem_cons_self
      · exact List.mem_cons_self
    · exact List.mem_cons_of_mem _ (List.mem_cons_of_mem _ e)
def e_pair (p : Nat × List Nat) : PyData := .tuple [.int (p.1 : Int), .str (S p.2)]
def ltPair (a b : Nat × List Nat) : Bool := decide (a.1 < b.1 ∨ (a.1 = b.1 ∧ a.2 < b.2))
theorem lt_e_pair (a b : Nat × List Nat) : PySem.W.dataLt (e_pair a) (e_pair b) = ltPair a b := by
  obtain ⟨n, x⟩ := a
  obtain ⟨m, y⟩ := b
  unfold e_pair ltPair
  rw [lt_tuple_cons _ _ _ _ rfl, lt_tuple_cons _ _ _ _ rfl]
  simp only [eqv_int, eqv_str, lt_int, lt_str, lt_tuple_nil, decide_eq_true_eq]
  by_cases h : (n : Int) = (m : Int)
  · have h' : n = m := by omega
    subst h'
    rw [if_pos rfl]
    by_cases e : x = y
    · subst e; simp [List.lt_irrefl]
    · rw [if_neg e]; simp
  · rw [if_neg h, Bool.eq_iff_iff, decide_eq_true_eq, decide_eq_true_eq]
    have h' : n ≠ m := by omega
    constructor
    · intro q; left; omega
    · rintro (q | ⟨q, _⟩)
      · omega
      · exact absurd q h'
@[simp] theorem filter_yes {α : Type} (l : List α) : l.filter (fun _ => true) = l := List.filter_eq_self.mpr fun _ _ => rfl
theorem any_decG {α : Type} [DecidableEq α] (l : List α) (a : α) : l.any (fun y => decide (y = a)) = true ↔ a ∈ l := by
  rw [List.any_eq_true]
  exact ⟨fun ⟨y, h, e⟩ => by rw [← of_decide_eq_true e]; exact h, fun h => ⟨a, h, decide_eq_true rfl⟩⟩
theorem any_decG' {α : Type} [DecidableEq α] (l : List α) (a : α) : l.any (fun y => decide (a = y)) = true ↔ a ∈ l := by
  rw [List.any_eq_true]
  exact ⟨fun ⟨y, h, e⟩ => by rw [of_decide_eq_true e]; exact h, fun h => ⟨a, h, decide_eq_true rfl⟩⟩
@[simp] theorem any_dec_s (l : List (List Nat)) (a : List Nat) : l.any (fun y => decide (y = a)) = decide (a ∈ l) := by rw [Bool.eq_iff_iff, any_decG, decide_eq_true_eq]
@[simp] theorem any_dec_s' (l : List (List Nat)) (a : List Nat) : l.any (fun y => decide (a = y)) = decide (a ∈ l) := by rw [Bool.eq_iff_iff, any_decG', decide_eq_true_eq]
@[simp] theorem any_dec_i (l : List (Int)) (a : Int) : l.any (fun y => decide (y = a)) = decide (a ∈ l) := by rw [Bool.eq_iff_iff, any_decG, decide_eq_true_eq]
@[simp] theorem any_dec_i' (l : List (Int)) (a : Int) : l.any (fun y => decide (a = y)) = decide (a ∈ l) := by rw [Bool.eq_iff_iff, any_decG', decide_eq_true_eq]
@[simp] theorem any_dec_n (l : List (Nat)) (a : Nat) : l.any (fun y => decide (y = a)) = decide (a ∈ l) := by rw [Bool.eq_iff_iff, any_decG, decide_eq_true_eq]
@[simp] theorem any_dec_n' (l : List (Nat)) (a : Nat) : l.any (fun y => decide (a = y)) = decide (a ∈ l) := by rw [Bool.eq_iff_iff, any_decG', decide_eq_true_eq]
@[simp] theorem any_dec_ss (l : List (List (List Nat))) (a : List (List Nat)) : l.any (fun y => decide (y = a)) = decide (a ∈ l) := by rw [Bool.eq_iff_iff, any_decG, decide_eq_true_eq]
@[simp] theorem any_dec_ss' (l : List (List (List Nat))) (a : List (List Nat)) : l.any (fun y => decide (a = y)) = decide (a ∈ l) := by rw [Bool.eq_iff_iff, any_decG', decide_eq_true_eq]
@[simp] theorem any_dec_ii (l : List (List Int)) (a : List Int) : l.any (fun y => decide (y = a)) = decide (a ∈ l) := by rw [Bool.eq_iff_iff, any_decG, decide_eq_true_eq]
@[simp] theorem any_dec_ii' (l : List (List Int)) (a : List Int) : l.any (fun y => decide (a = y)) = decide (a ∈ l) := by rw [Bool.eq_iff_iff, any_decG', decide_eq_true_eq]
def pickL {α : Type} [Inhabited α] (lt : α → α → Bool) : List α → α
  | [] => default
  | x :: xs => pick lt x xs
theorem pickL_mem {α : Type} [Inhabited α] (lt : α → α → Bool) {xs : List α} (h : xs ≠ []) : pickL lt xs ∈ xs := by
  cases xs with
  | nil => exact absurd rfl h
  | cons x xs => exact pick_mem lt x xs
theorem allAlike_of {α : Type} (f : α → PyData) (h : ∀ a b, PySem.W.alike (f a) (f b) = true) (xs : List α) : PySem.W.AllAlike (xs.map f) := by
  intro x hx y hy
  obtain ⟨a, _, rfl⟩ := List.mem_map.mp hx
  obtain ⟨b, _, rfl⟩ := List.mem_map.mp hy
  exact h a b
theorem alikeAll_of {α : Type} (f : α → PyData) (h : ∀ a b, PySem.W.alike (f a) (f b) = true) (hn : ∀ a, f a ≠ .none) (xs : List α) : PySem.W.AlikeAll (xs.map f) :=
  ⟨allAlike_of f h xs, fun x hx => by obtain ⟨a, _, rfl⟩ := List.mem_map.mp hx; exact hn a⟩
theorem nBest_map {α : Type} (f : α → PyData) (h : ∀ a b, PySem.W.alike (f a) (f b) = true) (h2 : ∀ a, (f a).plain = true) (h3 : ∀ a, (f a).depth ≤ 50) (hn : ∀ a, f a ≠ .none) {xs : List α} (hx : xs ≠ []) : nBest (.list (xs.map f)) := by
  have q1 : PyData.plainAll (xs.map f) = true := (plainAll_map f xs).mpr fun x _ => h2 x
  have q2 : PyData.depthAll (xs.map f) ≤ 50 := (depthAll_map f xs 50).mpr fun x _ => h3 x
  have q3 := alikeAll_of f h hn xs
  cases xs with
  | nil => exact absurd rfl hx
  | cons x xs => exact ⟨q3, q1, q2⟩
theorem bestMin_map {α : Type} [Inhabited α] (f : α → PyData) (lt : α → α → Bool) (h : ∀ a b, PySem.W.dataLt (f a) (f b) = lt a b) {xs : List α} (hx : xs ≠ []) : bestD PySem.W.minD (.list (xs.map f)) = f (pickL lt xs) := by
  cases xs with
  | nil => exact absurd rfl hx
  | cons x xs => exact minD_map f lt h x xs
theorem bestMax_map {α : Type} [Inhabited α] (f : α → PyData) (lt : α → α → Bool) (h : ∀ a b, PySem.W.dataLt (f a) (f b) = lt a b) {xs : List α} (hx : xs ≠ []) : bestD PySem.W.maxD (.list (xs.map f)) = f (pickL (fun a b => lt b a) xs) := by
  cases xs with
  | nil => exact absurd rfl hx
  | cons x xs => exact maxD_map f lt h x xs
end TL
set_option linter.all false
set_option maxRecDepth 100000
set_option maxHeartbeats 1000000
set_option autoImplicit false
namespace TL
open PySem PySem.Spec PyProof.Rows L2
/-! ## what an expression with effects comes to -/
structure Runs (da : Env → Out) (ρ : Env) (w : W) (ρ1 : Env) : Prop where
  need : (da ρ).need
  w : (da ρ).w = w
  env : (da ρ).env = ρ1
structure RunsL (dl : Env → Outs) (ρ : Env) (ws : List W) (ρ1 : Env) : Prop where
  need : (dl ρ).need
  ws : (dl ρ).ws = ws
  env : (dl ρ).env = ρ1
section
variable {da db : Env → Out} {dl : Env → Outs} {ρ ρ1 ρ2 : Env} {w w1 w2 : W} {ws : List W} {T : TEnds}
theorem ret_r (h : Runs da ρ w ρ1) (q : T.rt w ρ1) : dRet da T ρ := ⟨h.need, by rw [h.w, h.env]; exact q⟩
theorem asg_r {i : Nat} (h : Runs da ρ w ρ1) (hw : isO w) (hi : i < ρ1.length) (q : T.nx (ρ1.set i (some (.sh (view ρ1 w))))) : dAsg i da T ρ :=
  ⟨h.need, by rw [h.w]; exact hw, by rw [h.env]; exact hi, by rw [h.w, h.env]; exact q⟩
theorem asgO_r {i : Nat} (h : Runs da ρ w ρ1) (hw : isO w) (hi : i < ρ1.length) (q : T.nx (ρ1.set i (some (oOf w)))) : dAsgO i da T ρ :=
  ⟨h.need, by rw [h.w]; exact hw, by rw [h.env]; exact hi, by rw [h.w, h.env]; exact q⟩
theorem runs_pure {va : Env → W} {na : Env → Prop} (h : na ρ) : Runs (dPure va na) ρ (va ρ) ρ := ⟨h, rfl, rfl⟩
theorem runs_of (h : (da ρ).need) : Runs da ρ (da ρ).w (da ρ).env := ⟨h, rfl, rfl⟩
theorem runs_B {f : PyData → PyData → O} {n : PyData → PyData → Prop} (h1 : Runs da ρ w1 ρ1) (o1 : isO w1) (h2 : Runs db ρ1 w2 ρ2) (o2 : okEl ρ2 w2) (hn : n (view ρ2 w1) (view ρ2 w2)) : Runs (dB f n da db) ρ (.o (f (view ρ2 w1) (view ρ2 w2))) ρ2 := by
  refine ⟨?_, ?_, ?_⟩
  · show (da ρ).need ∧ isO (da ρ).w ∧ (db (da ρ).env).need ∧ okEl (db (da ρ).env).env (db (da ρ).env).w ∧ n (view (db (da ρ).env).env (da ρ).w) (view (db (da ρ).env).env (db (da ρ).env).w)
    rw [h1.env, h1.w, h2.env, h2.w]; exact ⟨h1.need, o1, h2.need, o2, hn⟩
  · show W.o (f (view (db (da ρ).env).env (da ρ).w) (view (db (da ρ).env).env (db (da ρ).env).w)) = _
    rw [h1.env, h1.w, h2.env, h2.w]
  · show (db (da ρ).env).env = _
    rw [h1.env, h2.env]
theorem runsL_one (h : Runs da ρ w ρ1) : RunsL (fun ρ => ⟨[(da ρ).w], (da ρ).env, (da ρ).need⟩) ρ [w] ρ1 := ⟨h.need, by show [(da ρ).w] = _; rw [h.w], h.env⟩
theorem runs_C {f : List PyData → O} {n : List PyData → Prop} (h : RunsL dl ρ ws ρ1) (ok : ∀ w ∈ ws, okEl ρ1 w) (hn : n (ws.map (view ρ1))) : Runs (dC f n dl) ρ (.o (f (ws.map (view ρ1)))) ρ1 := by
  refine ⟨?_, ?_, ?_⟩
  · show (dl ρ).need ∧ (∀ w ∈ (dl ρ).ws, okEl (dl ρ).env w) ∧ n ((dl ρ).ws.map (view (dl ρ).env))
    rw [h.env, h.ws]; exact ⟨h.need, ok, hn⟩
  · show W.o (f ((dl ρ).ws.map (view (dl ρ).env))) = _
    rw [h.env, h.ws]
  · show (dl ρ).env = _
    rw [h.env]
/-! ### comprehensions with effects -/
def runS {σ : Type} (step : σ → PyData × σ) : Nat → σ → List PyData × σ
  | 0, s => ([], s)
  | n + 1, s => ((step s).1 :: (runS step n (step s).2).1, (runS step n (step s).2).2)
theorem compX_run {σ : Type} {ix : List Nat} {tg : PyData → Env → Env} {nt : PyData → Prop} {e : Env → Out} (E : σ → Env) (step : σ → PyData × σ) (ok : σ → Nat → Prop) (he : Hold e)
    (h : ∀ s n d, ok s (n + 1) → ∃ w ρ', nt d ∧ (∀ i ∈ ix, i < (E s).length ∧ i < ρ'.length) ∧ Runs e (tg d (E s)) w ρ' ∧ isO w ∧ view ρ' w = (step s).1 ∧ wipeE ρ' ix = E (step s).2 ∧ ok (step s).2 n) :
    ∀ (ds : List PyData) (s : σ), ok s ds.length → (compX ix tg nt e he ds (E s)).ds = (runS step ds.length s).1 ∧ (compX ix tg nt e he ds (E s)).env = E (runS step ds.length s).2 ∧ (compX ix tg nt e he ds (E s)).need
  | [], s, _ => ⟨rfl, rfl, trivial⟩
  | d :: ds, s, hk => by
    obtain ⟨w, ρ', h1, h2, h3, h4, h5, h6, h7⟩ := h s ds.length d hk
    obtain ⟨i1, i2, i3⟩ := compX_run E step ok he h ds (step s).2 h7
    have e1 : wipeE (e (tg d (E s))).env ix = E (step s).2 := by rw [h3.env]; exact h6
    refine ⟨?_, ?_, ?_⟩
    · show view (e (tg d (E s))).env (e (tg d (E s))).w :: (compX ix tg nt e he ds (wipeE (e (tg d (E s))).env ix)).ds = (step s).1 :: _
      rw [e1, i1, h3.env, h3.w, h5]
      try rfl
    · show (compX ix tg nt e he ds (wipeE (e (tg d (E s))).env ix)).env = _
      rw [e1, i2]; rfl
    · show nt d ∧ (∀ i ∈ ix, i < (E s).length ∧ i < (e (tg d (E s))).env.length) ∧ (e (tg d (E s))).need ∧ isO (e (tg d (E s))).w ∧ (compX ix tg nt e he ds (wipeE (e (tg d (E s))).env ix)).need
      rw [e1, h3.env, h3.w]
      exact ⟨h1, h2, h3.need, h4, i3⟩
theorem runs_comp {σ : Type} {ix : List Nat} {tg : PyData → Env → Env} {nt : PyData → Prop} {e : Env → Out} {di : Env → OutI} (E : σ → Env) (step : σ → PyData × σ) (ok : σ → Nat → Prop) (s : σ) (ds : List PyData) (n : Nat)
    (e1 : (di ρ).ds = ds) (e2 : (di ρ).env = E s) (h0 : (di ρ).need) (hn : ds.length = n) (hl : n < sizeLine) (hix : ∀ i ∈ ix, (E s)[i]? = some none) (hk : ok s n)
    (h : ∀ s n d, ok s (n + 1) → ∃ w ρ', nt d ∧ (∀ i ∈ ix, i < (E s).length ∧ i < ρ'.length) ∧ Runs e (tg d (E s)) w ρ' ∧ isO w ∧ view ρ' w = (step s).1 ∧ wipeE ρ' ix = E (step s).2 ∧ ok (step s).2 n) :
    Runs (dComp ix tg nt di e) ρ (.o (.lst (runS step n s).1)) (E (runS step n s).2) := by
  subst hn
  obtain ⟨i1, i2, i3⟩ := compX_run E step ok Hold.mk h ds s hk
  refine ⟨?_, ?_, ?_⟩
  · show (di ρ).need ∧ (∀ i ∈ ix, (di ρ).env[i]? = some none) ∧ (di ρ).ds.length < sizeLine ∧ (compX ix tg nt e .mk (di ρ).ds (di ρ).env).need
    rw [e1, e2]; exact ⟨h0, hix, hl, i3⟩
  · show W.o (.lst (compX ix tg nt e .mk (di ρ).ds (di ρ).env).ds) = _
    rw [e1, e2, i1]
  · show (compX ix tg nt e .mk (di ρ).ds (di ρ).env).env = _
    rw [e1, e2, i2]
end
/-! ### texts joined -/
theorem joinL_nil : ∀ l : List (List Nat), joinL [] l = l.flatten
  | [] => rfl
  | [x] => by simp [joinL]
  | x :: y :: l => by
    rw [joinL, joinL_nil (y :: l)]
    simp
theorem join_nil (l : List (List Nat)) : Txt.join (S []) (l.map S) = S l.flatten := by
  have h := SX.join_S [] l
  rw [joinL_nil] at h
  exact h
theorem flat_ones : ∀ l : List Nat, (l.map fun c => [c]).flatten = l
  | [] => rfl
  | c :: l => by simp [flat_ones l]
theorem join_ones (l : List Nat) : Txt.join (S []) (l.map fun c => S [c]) = S l := by
  have h := join_nil (l.map fun c => [c])
  rw [List.map_map] at h
  have e := flat_ones l
  rw [e] at h
  exact h
@[simp] theorem sum_map_one {α : Type} : ∀ l : List α, (l.map fun _ => 1).sum = l.length
  | [] => rfl
  | _ :: l => by rw [List.map_cons, List.sum_cons, sum_map_one l, List.length_cons, Nat.add_comm]
end TL
set_option linter.all false
set_option maxRecDepth 100000
set_option maxHeartbeats 1000000
set_option autoImplicit false
namespace TL
open PySem PySem.Spec PyProof.Rows L2
/-! ## repr: how long a datum's text is at most -/
mutual
def wt : PyData → Nat
  | .none => 4
  | .bool _ => 5
  | .int _ => 1921
  | .str x => 10 * x.length + 2
  | .list xs => 2 + wtAll xs
  | .tuple xs => 3 + wtAll xs
  | .dict _ => 0
def wtAll : List PyData → Nat
  | [] => 0
  | x :: xs => wt x + 2 + wtAll xs
end
mutual
def sgn : PyData → Bool
  | .str x => x.cps.toList.all fun c => decide (c < 4294967296)
  | .list xs => sgnAll xs
  | .tuple xs => sgnAll xs
  | _ => true
def sgnAll : List PyData → Bool
  | [] => true
  | x :: xs => sgn x && sgnAll xs
end
theorem str_append_len (a b : Str) : (a ++ b).length = a.length + b.length := by
  show (a.cps ++ b.cps).size = _
  rw [Array.size_append]; rfl
mutual
theorem shown_le : ∀ d : PyData, d.showable = true → d.plain = true → sgn d = true → d.shown.length ≤ wt d
  | .none, _, _, _ => by rw [PyData.shown_none]; decide +kernel
  | .bool b, _, _, _ => by rw [PyData.shown_bool]; cases b <;> decide +kernel
  | .int i, h, _, _ => by
    rw [PyData.shown_int]
    have h' : i.natAbs.log2 < 1920 := by simpa [PyData.showable] using h
    exact PyProof.Rows.int_text_len_1921 h'
  | .str x, _, _, hs => by
    rw [PyData.shown_str]
    refine StrLaws.reprText_len x fun c hc => ?_
    have hs' : (x.cps.toList.all fun c => decide (c < 4294967296)) = true := hs
    have := List.all_eq_true.mp hs' c hc
    have h2 : c < 4294967296 := of_decide_eq_true this
    omega
  | .list xs, h, hp, hs => by
    rw [PyData.shown_list, str_append_len, str_append_len]
    have h1 := shownAll_le xs (by simpa [PyData.showable] using h) hp hs
    show 1 + (Str.join (Str.ofString ", ") (PyData.shownAll xs)).length + 1 ≤ 2 + wtAll xs
    omega
  | .tuple xs, h, hp, hs => by
    rw [PyData.shown_tuple, str_append_len, str_append_len]
    have h1 := shownAll_le xs (by simpa [PyData.showable] using h) hp hs
    have h2 : ((if (xs.length == 1) = true then ",)" else ")" : String) : Str).length ≤ 2 := by
      by_cases q : (xs.length == 1) = true
      · rw [if_pos q]; decide +kernel
      · rw [if_neg q]; decide +kernel
    show 1 + (Str.join (Str.ofString ", ") (PyData.shownAll xs)).length + _ ≤ 3 + wtAll xs
    omega
  | .dict _, _, hp, _ => by cases hp
theorem shownAll_le : ∀ xs : List PyData, PyData.showableAll xs = true → PyData.plainAll xs = true → sgnAll xs = true → (Str.join (Str.ofString ", ") (PyData.shownAll xs)).length ≤ wtAll xs
  | [], _, _, _ => by rw [PyData.shownAll_nil]; exact Nat.zero_le _
  | [x], h, hp, hs => by
    rw [PyData.shownAll_cons, PyData.shownAll_nil]
    have a1 : x.showable = true := by simpa [PyData.showableAll] using h
    have a2 : x.plain = true := by simpa using hp
    have a3 : sgn x = true := by simpa [sgnAll] using hs
    have h1 := shown_le x a1 a2 a3
    show x.shown.length ≤ wt x + 2 + 0
    omega
  | x :: y :: xs, h, hp, hs => by
    have a1 : x.showable = true ∧ PyData.showableAll (y :: xs) = true := by simpa [PyData.showableAll] using h
    have a2 : x.plain = true ∧ PyData.plainAll (y :: xs) = true := by simpa using hp
    have a3 : sgn x = true ∧ sgnAll (y :: xs) = true := by simpa [sgnAll] using hs
    have h1 := shown_le x a1.1 a2.1 a3.1
    have h2 := shownAll_le (y :: xs) a1.2 a2.2 a3.2
    rw [PyData.shownAll_cons, PyData.shownAll_cons]
    rw [PyData.shownAll_cons] at h2
    show (x.shown ++ Str.ofString ", " ++ Str.join (Str.ofString ", ") (y.shown :: PyData.shownAll xs)).length ≤ wt x + 2 + wtAll (y :: xs)
    rw [str_append_len, str_append_len]
    have e : (Str.ofString ", ").length = 2 := by decide +kernel
    omega
end
@[simp] def nRepr2 (d : PyData) : Prop := isDisp d ∧ d.showable = true ∧ d.plain = true ∧ d.depth ≤ 50 ∧ sgn d = true ∧ wt d ≤ sizeLine
theorem con_reprW {K : PySem.W.Frag} : ConC K (rReprD K) (f1 fun d => .sh (.str d.shown)) (n1 nRepr2) := by
  intro xs ds R H Q s hx hn k
  refine con_repr xs ds R H Q s hx ?_ k
  match ds, hn with
  | [d], ⟨h1, h2, h3, h4, h5, h6⟩ => exact ⟨h1, h2, h3, h4, Nat.le_trans (shown_le d h2 h3 h5) h6⟩
@[simp] theorem wt_none : wt .none = 4 := rfl
@[simp] theorem wt_bool (b : Bool) : wt (.bool b) = 5 := rfl
@[simp] theorem wt_int (i : Int) : wt (.int i) = 1921 := rfl
@[simp] theorem wt_str (x : Str) : wt (.str x) = 10 * x.length + 2 := rfl
@[simp] theorem wt_list (xs : List PyData) : wt (.list xs) = 2 + wtAll xs := rfl
@[simp] theorem wt_tuple (xs : List PyData) : wt (.tuple xs) = 3 + wtAll xs := rfl
@[simp] theorem wtAll_nil : wtAll [] = 0 := rfl
@[simp] theorem wtAll_cons (x : PyData) (xs : List PyData) : wtAll (x :: xs) = wt x + 2 + wtAll xs := rfl
theorem wtAll_map {α : Type} (f : α → PyData) (n : Nat) : ∀ xs : List α, (∀ x ∈ xs, wt (f x) ≤ n) → wtAll (xs.map f) ≤ xs.length * (n + 2)
  | [], _ => by simp
  | x :: xs, h => by
    have h1 := h x List.mem_cons_self
    have h2 := wtAll_map f n xs fun y hy => h y (List.mem_cons_of_mem _ hy)
    rw [List.map_cons, wtAll_cons, List.length_cons, Nat.succ_mul]
    omega
@[simp] theorem sgn_none : sgn .none = true := rfl
@[simp] theorem sgn_bool (b : Bool) : sgn (.bool b) = true := rfl
@[simp] theorem sgn_int (i : Int) : sgn (.int i) = true := rfl
@[simp] theorem sgn_str (l : List Nat) : sgn (.str (S l)) = l.all fun c => decide (c < 4294967296) := rfl
@[simp] theorem sgn_list (xs : List PyData) : sgn (.list xs) = sgnAll xs := rfl
@[simp] theorem sgn_tuple (xs : List PyData) : sgn (.tuple xs) = sgnAll xs := rfl
@[simp] theorem sgnAll_nil : sgnAll [] = true := rfl
@[simp] theorem sgnAll_cons (x : PyData) (xs : List PyData) : sgnAll (x :: xs) = (sgn x && sgnAll xs) := rfl
@[simp] theorem sgnAll_map {α : Type} (f : α → PyData) : ∀ xs : List α, sgnAll (xs.map f) = true ↔ ∀ x ∈ xs, sgn (f x) = true
  | [] => by simp
  | x :: xs => by simp [sgnAll_map f xs]
@[simp] theorem showable_none : PyData.showable .none = true := rfl
@[simp] theorem showable_bool (b : Bool) : PyData.showable (.bool b) = true := rfl
@[simp] theorem showable_str (x : Str) : PyData.showable (.str x) = true := rfl
@[simp] theorem showable_int (i : Int) : PyData.showable (.int i) = true ↔ i.natAbs.log2 < 1920 := by simp [PyData.showable]
theorem log2_small {i : Int} (h : i.natAbs < 2 ^ 64) : i.natAbs.log2 < 1920 := Nat.lt_of_lt_of_le (PySem.Flt.log2_lt_of (by decide) h) (by decide)
@[simp] theorem showable_list (xs : List PyData) : PyData.showable (.list xs) = PyData.showableAll xs := by simp [PyData.showable]
@[simp] theorem showable_tuple (xs : List PyData) : PyData.showable (.tuple xs) = PyData.showableAll xs := by simp [PyData.showable]
@[simp] theorem showableAll_nil : PyData.showableAll [] = true := by simp [PyData.showableAll]
@[simp] theorem showableAll_cons (x : PyData) (xs : List PyData) : PyData.showableAll (x :: xs) = (x.showable && PyData.showableAll xs) := by simp [PyData.showableAll]
@[simp] theorem showableAll_map {α : Type} (f : α → PyData) : ∀ xs : List α, PyData.showableAll (xs.map f) = true ↔ ∀ x ∈ xs, (f x).showable = true
  | [] => by simp
  | x :: xs => by simp [showableAll_map f xs]
@[simp low] theorem eqv_strG (a b : Str) : PyData.eqv (.str a) (.str b) = decide (a = b) := by
  have h : PyData.eqv (.str a) (.str b) = (a == b) := by simp only [PyData.eqv]
  rw [h, beq_dec]
end TL
set_option linter.all false
set_option maxRecDepth 100000
set_option maxHeartbeats 1000000
set_option autoImplicit false
namespace TL
open PySem PySem.Spec PyProof.Rows L2
/-! ## the law's call -/
section
variable {P : Program} {w : World} {K : PySem.W.Frag} {mg mb : Str → Option Value} {k : Nat} {fa a : Addr} {fd : FuncData} {x : Str} {sp : Sp} {s₁ : Shared} {vs : List Value} {ns : List Int}
/-- from a picture of the heap in which at most the script is told -/
theorem call_from {H : Hp} (KX : K.In s₁.heap) (hns : s₁.heap.Ns mainGlobals mg) (hb : s₁.heap.Ns builtinsNs mb) (hbb : ∀ x : Str, x ≠ "__name__" → mb x = bootBuiltins x) (hlim : s₁.heap.NoLimit) (hg : s₁.gens = #[])
    (ha : s₁.heap.get? a = some { cls := .type "list", data := .seq vs.toArray }) (hr : Room k callerA)
    (F : ∀ base : Heap, K.In base → base.Ns mainGlobals mg → FnG P w K mg base CX0 k fa fd [x] sp) (hbind : ∀ (s : Shared) (u : Value), BindsTo s fd ⟨[u], []⟩ [(x, u)])
    (hO : Only H) (hsp : sp [.ref a] H (fun v _ => v = .bl true) fun _ _ _ => False) (hok : HOk P w H s₁.heap) (hA : ∀ b, H b ≠ none → b = a) (hK : H a ≠ none → K.lookup a = none) :
    codeAny (model P w) callerA (.call (.ref fa) ⟨[.ref a], []⟩) (fun r s' => r = .ok (.ret (.bool true)) ∧ OldK s₁.heap s'.heap ∧ s'.os = s₁.os ∧ AllBare s'.gens) s₁ := by
  have free : ∀ {b : Addr} {o : Obj}, s₁.heap.get? b = some o → (∀ c : Array Value, ∀ n, o.data ≠ .seq c n) → H b = none := fun {b o} e d => by
    by_cases q : H b = none
    · exact q
    · obtain rfl := hA b q
      rw [ha] at e; cases e
      exact absurd rfl (d _ _)
  have nsK : ∀ {b : Addr} {m : Str → Option Value}, s₁.heap.Ns b m → (hidT s₁.heap H).Ns b m := fun {b m} ⟨o, es, ep, e, d, r⟩ => ⟨o, es, ep, hidT_get e (free e fun c n z => by rw [d] at z; cases z), d, r⟩
  have hKb : K.In (hidT s₁.heap H) := fun b o e => hidT_get (KX b o e) (by
    by_cases q : H b = none
    · exact q
    · obtain rfl := hA b q
      rw [hK q] at e; cases e)
  obtain ⟨mc, l1, l2⟩ := hlim
  have e0 : Env0 P w K mg (hidT s₁.heap H) callerA [] s₁ H :=
    { frames := rfl, mod := ⟨hKb, nsK hns, ⟨mb, nsK hb, hbb⟩, ⟨mc, nsK l1, l2⟩⟩, bs := fun b o e => of_hidT e, bsz := Nat.le_of_eq (hidT_size _ _), funs := trivial, frf := fun b z => (by cases z), hok := hok, bare := .of_eq hg }
  refine codeAny_mono ((F _ hKb (nsK hns)).go callerA [] s₁ H ⟨[.ref a], []⟩ [.ref a] [.ref a] _ _ rfl hr e0 (hbind s₁ (.ref a)) (.cons rfl .nil) hsp) fun r s' h => ?_
  match r, h with
  | .ok (.ret u), ⟨v, H', os, bare, un, hok', r', q⟩ =>
    have q' : v = .bl true := q
    subst q'
    obtain rfl : u = Value.bool true := r'
    refine ⟨rfl, OldK.of_keep fun b o e => ?_, os, bare⟩
    rcases hO b with z | ⟨ob, xs, z⟩
    · exact un.keep b o e z (fun y => by cases y) (fun y => by cases y)
    · have e1 := (hok b _ z).1
      rw [e] at e1; cases e1
      exact (hok' b _ (un.frzs b _ _ z)).1
theorem law_callG (KX : K.In s₁.heap) (hns : s₁.heap.Ns mainGlobals mg) (hb : s₁.heap.Ns builtinsNs mb) (hbb : ∀ x : Str, x ≠ "__name__" → mb x = bootBuiltins x) (hlim : s₁.heap.NoLimit) (hg : s₁.gens = #[])
    (ha : s₁.heap.get? a = some { cls := .type "list", data := .seq vs.toArray }) (hi : IntsAre vs ns) (hl : ns.length ≤ sizeLine) (hr : Room k callerA)
    (F : ∀ base : Heap, K.In base → base.Ns mainGlobals mg → FnG P w K mg base CX0 k fa fd [x] sp) (hbind : ∀ (s : Shared) (u : Value), BindsTo s fd ⟨[u], []⟩ [(x, u)])
    (hsp : ∀ H : Hp, Only H → SqL K H a (ns.map V.int) → sp [.ref a] H (fun v _ => v = .bl true) fun _ _ _ => False) :
    codeAny (model P w) callerA (.call (.ref fa) ⟨[.ref a], []⟩) (fun r s' => r = .ok (.ret (.bool true)) ∧ OldK s₁.heap s'.heap ∧ s'.os = s₁.os ∧ AllBare s'.gens) s₁ := by
  have rv := vals_ints hi
  cases hk : K.lookup a with
  | some o =>
    have e := KX a o hk
    rw [ha] at e
    cases e
    have hO : Only (fun _ => none) := fun _ => .inl rfl
    exact call_from (H := fun _ => none) KX hns hb hbb hlim hg ha hr F hbind hO (hsp _ hO (.inr ⟨_, vs.toArray, _, hk, rfl, rfl, rfl, by rw [List.size_toArray, hi.length]; exact hl, by simpa using rv⟩)) (fun b u z => by cases (show (none : Option HO) = some u from z)) (fun b z => absurd rfl z) fun z => absurd rfl z
  | none =>
    let H : Hp := fun b => if b = a then some (.frz { cls := .type "list", data := .seq vs.toArray } (.lst (ns.map V.int))) else none
    have hH : H a = some (.frz { cls := .type "list", data := .seq vs.toArray } (.lst (ns.map V.int))) := if_pos rfl
    have hN : ∀ b, b ≠ a → H b = none := fun b n => if_neg n
    have hO : Only H := fun b => by
      by_cases e : b = a
      · rw [e]; exact .inr ⟨_, _, hH⟩
      · exact .inl (hN b e)
    refine call_from (H := H) KX hns hb hbb hlim hg ha hr F hbind hO (hsp _ hO (.inl (.inr ⟨_, hH⟩))) (fun b u z => ?_) (fun b z => ?_) fun _ => hk
    · by_cases e : b = a
      · subst e
        rw [hH] at z; cases z
        exact ⟨ha, by rw [List.length_map]; exact hl, vs, _, rv, ha⟩
      · rw [hN b e] at z; cases z
    · exact Classical.byContradiction fun e => z (hN b e)
end
theorem walkG {l : PySem.W.OpenLaw} {n k : Nat} {q : Program} {loose : List Str} {XP : (Str → Option Value) → Heap → Prop} {YP : World → Heap → Prop} {d : DefRec} {K : Params → PySem.W.Frag} {F : List PyData → FOut} {x : Str}
    (hn : l.most = some n) (hn2 : n ≤ sizeLine) (hdf : d.params.defaults = []) (hr : Room k callerA)
    (hY : ∀ (w : World) (h : Heap), YP w h → (K w.params).In h)
    (G : ∀ (w : World) (mg : Str → Option Value) (fa : Addr) (h : Heap), (K w.params).In h → h.Ns mainGlobals mg → mg d.name = some (.ref fa) →
      ∃ fd : FuncData, (∀ (s : Shared) (u : Value), BindsTo s fd ⟨[u], []⟩ [(x, u)]) ∧
        ∀ base : Heap, (K w.params).In base → base.Ns mainGlobals mg → FnG l.prog w (K w.params) mg base CX0 k fa fd [x] (spP (K w.params) F 1))
    (hF : ∀ ns : List Int, ns.length ≤ n → (F [.list (ns.map .int)]).need ∧ (F [.list (ns.map .int)]).o = .sh (.bool true)) :
    PySem.W.WalkO q loose XP YP l.row.toRowW d [] (fun f vs => PySem.call f vs) := by
  refine Att.attach_call hn hdf fun w s₀ s₁ mg mb fa o pm cd doc a vs ns G' Y ho hd hcd hmg hobj hints hlen hg => ?_
  have KX := hY w _ Y
  obtain ⟨fd, hb, hFn⟩ := G w mg fa _ KX G'.T.g hmg
  refine law_callG KX G'.T.g G'.T.b G'.T.builtins G'.T.nolimit hg hobj hints (Nat.le_trans hlen hn2) hr hFn hb fun H hO hS => ?_
  obtain ⟨h1, h2⟩ := hF ns hlen
  refine ⟨H, [.list (ns.map .int)], Same.refl _, .cons (.lst hS (dpAll_int ns)) .nil, rfl, h1, fun v R' H' fv p ro => ?_⟩
  rw [h2] at ro
  have hd : Dp (K w.params) R' v (.bool true) := ro.1.1
  cases hd
  rfl
/-- a def, as the head of a law tells it -/
theorem hd_mk {K : PySem.W.Frag} {h : Heap} {mg : Str → Option Value} {x : Str} {ps : List Str} {st : Stmt} {f : Addr} {od an : Option Addr} {sl : Array (Option Value)} {oc kV dc pm cd ct : Value} (X : K.In h) (G : h.Ns mainGlobals mg)
    (a : PySem.W.nsIn K mainGlobals x = some (some (.ref f))) (l : K.lookup f = some ⟨oc, od, .func (PySem.W.fnOf x x (defArgs st) (defBody st) (defScope st) .none kV dc pm an cd ct), sl⟩) (c : PySem.W.codeIn K cd x = true) (k : PySem.W.keepIn K (.ref f) = true)
    (hb : ∀ (kV doc pm : Value) (an : Option Addr) (cdv ct : Value) (us : List Value), us.length = ps.length → bindArgs (PySem.W.fnOf x x (defArgs st) (defBody st) (defScope st) .none kV doc pm an cdv ct) ⟨us, []⟩ = pure (ps.zip us)) : ∃ fd, HD K mg x ps st f fd := by
  have F : L2.Fun K x x st f (PySem.W.fnOf x x (defArgs st) (defBody st) (defScope st) .none kV dc pm an cd ct) := ⟨⟨oc, od, kV, dc, pm, an, cd, ct, sl, rfl, l, c⟩, k⟩
  exact ⟨_, PySem.W.mg_of X G a, F, F.binds hb⟩
theorem HD.bind1 {K : PySem.W.Frag} {mg : Str → Option Value} {x p : Str} {st : Stmt} {f : Addr} {fd : FuncData} (h : HD K mg x [p] st f fd)
    (hb : ∀ (kV doc pm : Value) (an : Option Addr) (cdv ct : Value) (u : Value), bindArgs (PySem.W.fnOf x x (defArgs st) (defBody st) (defScope st) .none kV doc pm an cdv ct) ⟨[u], []⟩ = pure [(p, u)]) (s : Shared) (u : Value) : BindsTo s fd ⟨[u], []⟩ [(p, u)] := by
  obtain ⟨oc, od, kV, doc, pm, an, cdv, ct, osl, rfl, lk, hcd⟩ := h.2.1.ex
  exact .of_eq (hb kV doc pm an cdv ct u)
theorem const_mk {K : PySem.W.Frag} {h : Heap} {mg : Str → Option Value} {x : Str} {u : Value} {d : PyData} (X : K.In h) (G : h.Ns mainGlobals mg) (a : PySem.W.nsIn K mainGlobals x = some (some u)) (r : L2.RelV (toV d) u) : ∃ u, mg x = some u ∧ L2.RelV (toV d) u := ⟨u, PySem.W.mg_of X G a, r⟩
end TL
set_option linter.all false
set_option maxRecDepth 100000
set_option maxHeartbeats 2000000
set_option autoImplicit false
namespace K65
open PySem PySem.Spec PyProof.Rows L2 TL
def topS (i : Nat) : Stmt := PySem.Challenge.pw_wordhall_k65_whole_joined_strings.main.body.getD i (.Pass ⟨0, 0, 0, 0⟩)
@[simp] theorem lit_0 : Str.ofString "" = S [] := by decide +kernel
@[simp] theorem lit_1 : Str.ofString "a" = S [97] := by decide +kernel
@[simp] theorem lit_2 : Str.ofString "aaab" = S [97, 97, 97, 98] := by decide +kernel
@[simp] theorem lit_3 : Str.ofString "aaababbab" = S [97, 97, 97, 98, 97, 98, 98, 97, 98] := by decide +kernel
@[simp] theorem lit_4 : Str.ofString "aaabbaba" = S [97, 97, 97, 98, 98, 97, 98, 97] := by decide +kernel
@[simp] theorem lit_5 : Str.ofString "ab" = S [97, 98] := by decide +kernel
@[simp] theorem lit_6 : Str.ofString "aba" = S [97, 98, 97] := by decide +kernel
@[simp] theorem lit_7 : Str.ofString "abc" = S [97, 98, 99] := by decide +kernel
@[simp] theorem lit_8 : Str.ofString "ate" = S [97, 116, 101] := by decide +kernel
@[simp] theorem lit_9 : Str.ofString "ateat" = S [97, 116, 101, 97, 116] := by decide +kernel
@[simp] theorem lit_10 : Str.ofString "ba" = S [98, 97] := by decide +kernel
@[simp] theorem lit_11 : Str.ofString "banana" = S [98, 97, 110, 97, 110, 97] := by decide +kernel
@[simp] theorem lit_12 : Str.ofString "bbab" = S [98, 98, 97, 98] := by decide +kernel
@[simp] theorem lit_13 : Str.ofString "cba" = S [99, 98, 97] := by decide +kernel
@[simp] theorem lit_14 : Str.ofString "cd" = S [99, 100] := by decide +kernel
@[simp] theorem lit_15 : Str.ofString "eat" = S [101, 97, 116] := by decide +kernel
@[simp] theorem lit_16 : Str.ofString "law_wordhall_k65_whole_joined_strings" = S [108, 97, 119, 95, 119, 111, 114, 100, 104, 97, 108, 108, 95, 107, 54, 53, 95, 119, 104, 111, 108, 101, 95, 106, 111, 105, 110, 101, 100, 95, 115, 116, 114, 105, 110, 103, 115] := by decide +kernel
@[simp] theorem lit_17 : Str.ofString "nasal" = S [110, 97, 115, 97, 108] := by decide +kernel
@[simp] theorem lit_18 : Str.ofString "tea" = S [116, 101, 97] := by decide +kernel
@[simp] theorem lit_19 : Str.ofString "wordhall.errors" = S [119, 111, 114, 100, 104, 97, 108, 108, 46, 101, 114, 114, 111, 114, 115] := by decide +kernel
@[simp] theorem lit_20 : Str.ofString "wordhall.joinedstrings" = S [119, 111, 114, 100, 104, 97, 108, 108, 46, 106, 111, 105, 110, 101, 100, 115, 116, 114, 105, 110, 103, 115] := by decide +kernel
@[simp] theorem lit_21 : Str.ofString "wordhall.wordlists" = S [119, 111, 114, 100, 104, 97, 108, 108, 46, 119, 111, 114, 100, 108, 105, 115, 116, 115] := by decide +kernel
@[simp] theorem lit_22 : Str.ofString "z" = S [122] := by decide +kernel
abbrev blts : List Str := ["all", "any", "int", "isinstance", "len", "list", "max", "min", "range", "repr", "set", "sorted", "str", "sum"]
section
variable {P : Program} {w : World} {K : PySem.W.Frag} {mg : Str → Option Value} {base : Heap}
/-! ## overlaps -/
def ceF (a b : List Nat) : Nat → Nat
  | 0 => 0
  | k + 1 => if a.drop (a.length - (k + 1)) = b.take (k + 1) then k + 1 else ceF a b k
theorem ceF_pos (a b : List Nat) {q : Nat} (h : 0 < q) : ceF a b q = if a.drop (a.length - q) = b.take q then q else ceF a b (q - 1) := by
  cases q with
  | zero => omega
  | succ q => rfl
def ce (a b : List Nat) : Nat := ceF a b (min a.length b.length)
theorem ceF_le (a b : List Nat) : ∀ k, ceF a b k ≤ k
  | 0 => Nat.le_refl _
  | k + 1 => by
    rw [ceF]
    split
    · exact Nat.le_refl _
    · exact Nat.le_succ_of_le (ceF_le a b k)
theorem ceF_eq (a b : List Nat) : ∀ k, a.drop (a.length - ceF a b k) = b.take (ceF a b k)
  | 0 => by simp [ceF]
  | k + 1 => by
    rw [ceF]
    split
    · assumption
    · exact ceF_eq a b k
theorem ceF_max (a b : List Nat) : ∀ k j, j ≤ k → a.drop (a.length - j) = b.take j → j ≤ ceF a b k
  | 0, j, h, _ => by rw [ceF]; exact h
  | k + 1, j, h, e => by
    rw [ceF]
    split
    · exact h
    · rename_i n
      rcases Nat.lt_or_ge j (k + 1) with q | q
      · exact ceF_max a b k j (by omega) e
      · have : j = k + 1 := by omega
        subst this; exact absurd e n
theorem ce_le (a b : List Nat) : ce a b ≤ min a.length b.length := ceF_le a b _
theorem ce_eq (a b : List Nat) : a.drop (a.length - ce a b) = b.take (ce a b) := ceF_eq a b _
theorem ce_max (a b : List Nat) (j : Nat) (h : j ≤ min a.length b.length) (e : a.drop (a.length - j) = b.take j) : j ≤ ce a b := ceF_max a b _ j h e
def glue (a b : List Nat) : List Nat := a ++ b.drop (ce a b)
theorem glue_end (a b : List Nat) : ∃ p, glue a b = p ++ b := by
  refine ⟨a.take (a.length - ce a b), ?_⟩
  have h1 := List.take_append_drop (a.length - ce a b) a
  rw [ce_eq] at h1
  have h2 : (a.take (a.length - ce a b) ++ b.take (ce a b)) ++ b.drop (ce a b) = a.take (a.length - ce a b) ++ b := by rw [List.append_assoc, List.take_append_drop]
  rw [h1] at h2
  exact h2
theorem glue_length (a b : List Nat) : (glue a b).length + ce a b = a.length + b.length := by
  have h := ce_le a b
  unfold glue
  rw [List.length_append, List.length_drop]
  omega
theorem glue_len (a b : List Nat) : (glue a b).length ≤ a.length + b.length := by have := glue_length a b; omega
theorem in_glue_left (a b : List Nat) : isIn a (glue a b) = true := (isIn_iff _ _).mpr ⟨[], b.drop (ce a b), by simp [glue]⟩
theorem in_glue_right (a b : List Nat) : isIn b (glue a b) = true := by
  obtain ⟨p, e⟩ := glue_end a b
  exact (isIn_iff _ _).mpr ⟨p, [], by rw [e]; simp⟩
theorem isIn_refl (a : List Nat) : isIn a a = true := (isIn_iff _ _).mpr ⟨[], [], by simp⟩
theorem isIn_trans {a b c : List Nat} (h1 : isIn a b = true) (h2 : isIn b c = true) : isIn a c = true := by
  obtain ⟨p, q, rfl⟩ := (isIn_iff _ _).mp h1
  obtain ⟨r, s, rfl⟩ := (isIn_iff _ _).mp h2
  exact (isIn_iff _ _).mpr ⟨r ++ p, q ++ s, by simp⟩
theorem isIn_len {a b : List Nat} (h : isIn a b = true) : a.length ≤ b.length := by
  obtain ⟨p, q, rfl⟩ := (isIn_iff _ _).mp h
  simp; omega
theorem isIn_eq {a b : List Nat} (h : isIn a b = true) (hl : b.length ≤ a.length) : a = b := by
  obtain ⟨p, q, rfl⟩ := (isIn_iff _ _).mp h
  have hp : p = [] := List.length_eq_zero_iff.mp (by simp at hl; omega)
  have hq : q = [] := List.length_eq_zero_iff.mp (by simp at hl; omega)
  simp [hp, hq]
/-- what lies in a glued string and in neither part overlaps more -/
theorem isIn_glue {s a b : List Nat} (h : isIn s (glue a b) = true) : isIn s a = true ∨ isIn s b = true ∨ ce a b < ce a s := by
  obtain ⟨p, q, e⟩ := (isIn_iff _ _).mp h
  obtain ⟨r, er⟩ := glue_end a b
  have hl := glue_length a b
  have hce := ce_le a b
  have lr : r.length + b.length = (glue a b).length := by rw [er]; simp
  have lp : p.length + s.length + q.length = (glue a b).length := by rw [e]; simp; omega
  by_cases h1 : p.length + s.length ≤ a.length
  · -- within a
    left
    have e2 : (p ++ s) ++ q = a ++ b.drop (ce a b) := by rw [← e]; rfl
    have e3 : p ++ s = a.take (p.length + s.length) := by
      have := congrArg (List.take (p.length + s.length)) e2
      rw [List.take_left' (by simp), List.take_append_of_le_length h1] at this
      exact this
    refine (isIn_iff _ _).mpr ⟨p, a.drop (p.length + s.length), ?_⟩
    rw [e3, List.take_append_drop]
  · by_cases h2 : r.length ≤ p.length
    · right; left
      have e2 : p ++ (s ++ q) = r ++ b := by rw [← List.append_assoc, ← e, er]
      have e3 : s ++ q = b.drop (p.length - r.length) := by
        have := congrArg (List.drop p.length) e2
        rw [List.drop_left, List.drop_append, List.drop_of_length_le h2] at this
        simpa using this
      refine (isIn_iff _ _).mpr ⟨b.take (p.length - r.length), q, ?_⟩
      rw [List.append_assoc, e3, List.take_append_drop]
    · right; right
      have hpa : p.length ≤ a.length := by omega
      have e2 : p ++ (s ++ q) = a ++ b.drop (ce a b) := by rw [← List.append_assoc, ← e]; rfl
      have e3 : (s ++ q).take (a.length - p.length) = a.drop p.length := by
        have h3 : (p ++ (s ++ q)).drop p.length = (a ++ b.drop (ce a b)).drop p.length := by rw [e2]
        rw [List.drop_left, List.drop_append_of_le_length hpa] at h3
        rw [h3, List.take_left' (by simp)]
      have e4 : (s ++ q).take (a.length - p.length) = s.take (a.length - p.length) := List.take_append_of_le_length (by omega)
      have e5 : a.drop (a.length - (a.length - p.length)) = s.take (a.length - p.length) := by
        rw [← e4, e3]; congr 1; omega
      have h6 := ce_max a s (a.length - p.length) (by omega) e5
      omega
/-! ## words alone -/
def alone (ws : List (List Nat)) : List (List Nat) := ws.filter fun w => !ws.any fun o => isIn w o && !decide (w = o)
structure Good (l : List (List Nat)) : Prop where
  nd : l.Nodup
  ap : ∀ a ∈ l, ∀ b ∈ l, isIn a b = true → a = b
theorem mem_alone {ws : List (List Nat)} {w : List Nat} : w ∈ alone ws ↔ w ∈ ws ∧ ∀ o ∈ ws, isIn w o = true → w = o := by
  unfold alone
  rw [List.mem_filter]
  simp
theorem good_alone {ws : List (List Nat)} (h : ws.Nodup) : Good (alone ws) :=
  ⟨h.filter _, fun a ha b hb e => (mem_alone.mp ha).2 b (mem_alone.mp hb).1 e⟩
/-- each word lies in a word alone -/
theorem in_alone (ws : List (List Nat)) : ∀ (n : Nat) (w : List Nat), w ∈ ws → (∀ o ∈ ws, o.length ≤ w.length + n) → ∃ a ∈ alone ws, isIn w a = true
  | 0, w, hw, h => ⟨w, mem_alone.mpr ⟨hw, fun o ho e => isIn_eq e (h o ho)⟩, isIn_refl w⟩
  | n + 1, w, hw, h => by
    by_cases q : ∃ o ∈ ws, isIn w o = true ∧ w ≠ o
    · obtain ⟨o, ho, h1, h2⟩ := q
      have hlt : w.length < o.length := by
        rcases Nat.lt_or_ge w.length o.length with z | z
        · exact z
        · exact absurd (isIn_eq h1 z) h2
      obtain ⟨a, ha, h3⟩ := in_alone ws n o ho fun x hx => by have := h x hx; omega
      exact ⟨a, ha, isIn_trans h1 h3⟩
    · refine ⟨w, mem_alone.mpr ⟨hw, fun o ho e => ?_⟩, isIn_refl w⟩
      exact Classical.byContradiction fun ne => q ⟨o, ho, e, ne⟩
theorem len_bound (ws : List (List Nat)) : ∃ n, ∀ o ∈ ws, o.length ≤ n := by
  induction ws with
  | nil => exact ⟨0, fun _ h => nomatch h⟩
  | cons w ws ih =>
    obtain ⟨n, hn⟩ := ih
    refine ⟨w.length + n, fun o ho => ?_⟩
    rcases List.mem_cons.mp ho with rfl | ho
    · omega
    · have := hn o ho; omega
theorem in_alone' {ws : List (List Nat)} {w : List Nat} (h : w ∈ ws) : ∃ a ∈ alone ws, isIn w a = true := by
  obtain ⟨n, hn⟩ := len_bound ws
  exact in_alone ws n w h fun o ho => by have := hn o ho; omega
theorem alone_ne {ws : List (List Nat)} (h : ws ≠ []) : alone ws ≠ [] := by
  cases ws with
  | nil => exact absurd rfl h
  | cons w ws =>
    obtain ⟨a, ha, _⟩ := in_alone' (ws := w :: ws) List.mem_cons_self
    intro e; rw [e] at ha; cases ha
/-! ## the greedy way -/
theorem pick_least {α : Type} (lt : α → α → Bool) (f : α → Int) (h1 : ∀ a b, f a < f b → lt a b = true) (h2 : ∀ a b, lt a b = true → f a ≤ f b) : ∀ (xs : List α) (x : α), ∀ y ∈ x :: xs, f (pick lt x xs) ≤ f y
  | [], x, y, hy => by
    have e : y = x := by simpa using hy
    rw [e]; exact Int.le_refl _
  | z :: zs, x, y, hy => by
    have ih := pick_least lt f h1 h2 zs (if lt z x = true then z else x)
    have e : pick lt x (z :: zs) = pick lt (if lt z x = true then z else x) zs := rfl
    rw [e]
    have hm := ih _ List.mem_cons_self
    have hx : f (if lt z x = true then z else x) ≤ f x := by
      by_cases q : lt z x = true
      · rw [if_pos q]; exact h2 z x q
      · rw [if_neg q]; exact Int.le_refl _
    have hz : f (if lt z x = true then z else x) ≤ f z := by
      by_cases q : lt z x = true
      · rw [if_pos q]; exact Int.le_refl _
      · rw [if_neg q]
        rcases Int.lt_or_le (f z) (f x) with w | w
        · exact absurd (h1 z x w) q
        · exact w
    rcases List.mem_cons.mp hy with rfl | hy
    · omega
    · rcases List.mem_cons.mp hy with rfl | hy
      · omega
      · exact ih y (List.mem_cons_of_mem _ hy)
theorem pickL_least {α : Type} [Inhabited α] (lt : α → α → Bool) (f : α → Int) (h1 : ∀ a b, f a < f b → lt a b = true) (h2 : ∀ a b, lt a b = true → f a ≤ f b) {xs : List α} {y : α} (hy : y ∈ xs) : f (pickL lt xs) ≤ f y := by
  cases xs with
  | nil => cases hy
  | cons x xs => exact pick_least lt f h1 h2 xs x y hy
abbrev Tri := Int × List Nat × List Nat
def ltTri (a b : Tri) : Bool := decide (a.1 < b.1 ∨ (a.1 = b.1 ∧ (a.2.1 < b.2.1 ∨ (a.2.1 = b.2.1 ∧ a.2.2 < b.2.2))))
def pairsG (l : List (List Nat)) : List Tri := l.flatMap fun one => (l.filter fun o => !decide (o = one)).map fun o => (0 - (ce one o : Int), one, o)
def bestG (l : List (List Nat)) : Tri := pickL ltTri (pairsG l)
def stepG (l : List (List Nat)) : List (List Nat) := (l.filter fun s => !decide (s ∈ [(bestG l).2.1, (bestG l).2.2])) ++ [glue (bestG l).2.1 (bestG l).2.2]
theorem mem_pairs {l : List (List Nat)} {t : Tri} : t ∈ pairsG l ↔ ∃ a ∈ l, ∃ b ∈ l, b ≠ a ∧ t = (0 - (ce a b : Int), a, b) := by
  unfold pairsG
  simp only [List.mem_flatMap, List.mem_map, List.mem_filter]
  constructor
  · rintro ⟨a, ha, b, ⟨hb, h⟩, rfl⟩
    exact ⟨a, ha, b, hb, by simpa using h, rfl⟩
  · rintro ⟨a, ha, b, hb, h, rfl⟩
    exact ⟨a, ha, b, ⟨hb, by simpa using h⟩, rfl⟩
theorem pairs_ne {l : List (List Nat)} (g : Good l) (h : 2 ≤ l.length) : pairsG l ≠ [] := by
  match l, g, h with
  | a :: b :: l, g, _ =>
    intro e
    have ne : b ≠ a := fun z => by
      have := g.nd
      rw [z] at this
      simp at this
    have : (0 - (ce a b : Int), a, b) ∈ pairsG (a :: b :: l) := mem_pairs.mpr ⟨a, by simp, b, by simp, ne, rfl⟩
    rw [e] at this; cases this
theorem bestG_spec {l : List (List Nat)} (g : Good l) (h : 2 ≤ l.length) :
    (bestG l).2.1 ∈ l ∧ (bestG l).2.2 ∈ l ∧ (bestG l).2.2 ≠ (bestG l).2.1 ∧ (bestG l).1 = 0 - (ce (bestG l).2.1 (bestG l).2.2 : Int) ∧ ∀ a ∈ l, ∀ b ∈ l, b ≠ a → ce a b ≤ ce (bestG l).2.1 (bestG l).2.2 := by
  have hm : bestG l ∈ pairsG l := pickL_mem ltTri (pairs_ne g h)
  obtain ⟨a, ha, b, hb, ne, e⟩ := mem_pairs.mp hm
  have e1 : (bestG l).2.1 = a := by rw [e]
  have e2 : (bestG l).2.2 = b := by rw [e]
  have e3 : (bestG l).1 = 0 - (ce a b : Int) := by rw [e]
  rw [e1, e2, e3]
  refine ⟨ha, hb, ne, rfl, fun c hc d hd ne2 => ?_⟩
  have hl := pickL_least ltTri (fun t => t.1) (fun x y q => by unfold ltTri; exact decide_eq_true (.inl q)) (fun x y q => by
    unfold ltTri at q
    have q := of_decide_eq_true q
    rcases q with q | ⟨q, _⟩
    · exact Int.le_of_lt q
    · show x.1 ≤ y.1; omega) (mem_pairs.mpr ⟨c, hc, d, hd, ne2, rfl⟩ : (0 - (ce c d : Int), c, d) ∈ pairsG l)
  have hl' : (bestG l).1 ≤ 0 - (ce c d : Int) := hl
  rw [e3] at hl'
  omega
theorem step_perm {l : List (List Nat)} (g : Good l) (h : 2 ≤ l.length) : (l.filter fun s => !decide (s ∈ [(bestG l).2.1, (bestG l).2.2])) ++ [(bestG l).2.1, (bestG l).2.2] |>.Perm l := by
  obtain ⟨h1, h2, h3, -, -⟩ := bestG_spec g h
  refine (List.perm_ext_iff_of_nodup ?_ g.nd).mpr fun x => ?_
  · rw [List.nodup_append]
    refine ⟨g.nd.filter _, by simp [Ne.symm h3], fun a ha b hb e => ?_⟩
    have := (List.mem_filter.mp ha).2
    subst e
    rw [decide_eq_true hb] at this
    cases this
  · rw [List.mem_append, List.mem_filter]
    constructor
    · rintro (⟨q, _⟩ | q)
      · exact q
      · rcases List.mem_cons.mp q with rfl | q
        · exact h1
        · have : x = (bestG l).2.2 := by simpa using q
          rw [this]; exact h2
    · intro q
      by_cases z : x ∈ [(bestG l).2.1, (bestG l).2.2]
      · exact .inr z
      · exact .inl ⟨q, by rw [decide_eq_false z]; rfl⟩
theorem step_len {l : List (List Nat)} (g : Good l) (h : 2 ≤ l.length) : (stepG l).length + 1 = l.length := by
  have := (step_perm g h).length_eq
  unfold stepG
  simp only [List.length_append, List.length_cons, List.length_nil] at this ⊢
  omega
theorem step_sum {l : List (List Nat)} (g : Good l) (h : 2 ≤ l.length) : ((stepG l).map List.length).sum ≤ (l.map List.length).sum := by
  have h1 := ((step_perm g h).map List.length).sum_nat
  have h2 := glue_len (bestG l).2.1 (bestG l).2.2
  unfold stepG
  simp only [List.map_append, List.sum_append, List.map_cons, List.map_nil, List.sum_cons, List.sum_nil] at h1 ⊢
  omega
theorem mem_step {l : List (List Nat)} {x : List Nat} : x ∈ stepG l ↔ (x ∈ l ∧ x ≠ (bestG l).2.1 ∧ x ≠ (bestG l).2.2) ∨ x = glue (bestG l).2.1 (bestG l).2.2 := by
  unfold stepG
  rw [List.mem_append, List.mem_filter]
  simp
theorem good_step {l : List (List Nat)} (g : Good l) (h : 2 ≤ l.length) : Good (stepG l) := by
  obtain ⟨h1, h2, h3, -, h5⟩ := bestG_spec g h
  refine ⟨?_, fun a ha b hb e => ?_⟩
  · unfold stepG
    rw [List.nodup_append]
    refine ⟨g.nd.filter _, by simp, fun a ha b hb e => ?_⟩
    have hb' : b = glue (bestG l).2.1 (bestG l).2.2 := by simpa using hb
    obtain ⟨q1, q2⟩ := List.mem_filter.mp ha
    have q3 : isIn (bestG l).2.1 a = true := by rw [e, hb']; exact in_glue_left _ _
    have q4 := g.ap _ h1 _ q1 q3
    rw [← q4] at q2
    simp at q2
  · rcases mem_step.mp ha with ⟨a1, a2, a3⟩ | rfl
    · rcases mem_step.mp hb with ⟨b1, b2, b3⟩ | rfl
      · exact g.ap a a1 b b1 e
      · rcases isIn_glue e with q | q | q
        · exact absurd (g.ap a a1 _ h1 q) a2
        · exact absurd (g.ap a a1 _ h2 q) a3
        · have := h5 _ h1 a a1 a2
          omega
    · rcases mem_step.mp hb with ⟨b1, b2, b3⟩ | rfl
      · exact absurd (g.ap _ h1 b b1 (isIn_trans (in_glue_left _ _) e)).symm b2
      · rfl
theorem in_step {l : List (List Nat)} {w : List Nat} (h : ∃ a ∈ l, isIn w a = true) : ∃ a ∈ stepG l, isIn w a = true := by
  obtain ⟨a, ha, e⟩ := h
  by_cases q1 : a = (bestG l).2.1
  · exact ⟨_, mem_step.mpr (.inr rfl), by rw [q1] at e; exact isIn_trans e (in_glue_left _ _)⟩
  · by_cases q2 : a = (bestG l).2.2
    · exact ⟨_, mem_step.mpr (.inr rfl), by rw [q2] at e; exact isIn_trans e (in_glue_right _ _)⟩
    · exact ⟨a, mem_step.mpr (.inl ⟨ha, q1, q2⟩), e⟩
def greedyN : Nat → List (List Nat) → List (List Nat)
  | 0, l => l
  | n + 1, l => greedyN n (stepG l)
theorem greedyN_succ (l : List (List Nat)) : ∀ n, greedyN (n + 1) l = stepG (greedyN n l) := fun n => by
  induction n generalizing l with
  | zero => rfl
  | succ n ih => rw [greedyN, ih, greedyN]
theorem greedyN_good {l : List (List Nat)} (g : Good l) : ∀ n, n + 1 ≤ l.length → Good (greedyN n l) ∧ (greedyN n l).length + n = l.length ∧ ((greedyN n l).map List.length).sum ≤ (l.map List.length).sum ∧ ∀ w, (∃ a ∈ l, isIn w a = true) → ∃ a ∈ greedyN n l, isIn w a = true
  | 0, _ => ⟨g, rfl, Nat.le_refl _, fun _ h => h⟩
  | n + 1, h => by
    obtain ⟨h1, h2, h3, h4⟩ := greedyN_good g n (by omega)
    rw [greedyN_succ]
    have h5 : 2 ≤ (greedyN n l).length := by omega
    have h6 := step_len h1 h5
    have h7 := step_sum h1 h5
    exact ⟨good_step h1 h5, by omega, by omega, fun w hw => in_step (h4 w hw)⟩
def greedy (ws : List (List Nat)) : List Nat := (greedyN ((alone ws).length - 1) (alone ws)).headD []
theorem greedy_one {ws : List (List Nat)} (nd : ws.Nodup) (ne : ws ≠ []) : greedyN ((alone ws).length - 1) (alone ws) = [greedy ws] := by
  have h0 : 0 < (alone ws).length := List.length_pos_iff.mpr (alone_ne ne)
  obtain ⟨-, h2, -, -⟩ := greedyN_good (good_alone nd) ((alone ws).length - 1) (by omega)
  have h3 : (greedyN ((alone ws).length - 1) (alone ws)).length = 1 := by omega
  unfold greedy
  match q : greedyN ((alone ws).length - 1) (alone ws), h3 with
  | [a], _ => rfl
theorem greedy_has {ws : List (List Nat)} (nd : ws.Nodup) {w : List Nat} (hw : w ∈ ws) : isIn w (greedy ws) = true := by
  have ne : ws ≠ [] := fun e => by rw [e] at hw; cases hw
  have h0 : 0 < (alone ws).length := List.length_pos_iff.mpr (alone_ne ne)
  obtain ⟨-, -, -, h4⟩ := greedyN_good (good_alone nd) ((alone ws).length - 1) (by omega)
  obtain ⟨a, ha, e⟩ := h4 w (in_alone' hw)
  rw [greedy_one nd ne] at ha
  have : a = greedy ws := by simpa using ha
  rw [this] at e; exact e
/-! ## all orders -/
abbrev Row := List (List Nat) × List Nat
def stepRow (al : List (List Nat)) (r : Row) : List Row := (al.filter fun w => !decide (w ∈ r.1)).map fun w => (r.1 ++ [w], glue r.2 w)
def rowsN (al : List (List Nat)) : Nat → List Row
  | 0 => [([], [])]
  | n + 1 => (rowsN al n).flatMap (stepRow al)
theorem mem_row {al : List (List Nat)} {n : Nat} {r : Row} : r ∈ rowsN al (n + 1) ↔ ∃ q ∈ rowsN al n, ∃ w ∈ al, w ∉ q.1 ∧ r = (q.1 ++ [w], glue q.2 w) := by
  rw [rowsN]
  unfold stepRow
  simp only [List.mem_flatMap, List.mem_map, List.mem_filter]
  constructor
  · rintro ⟨q, hq, w, ⟨hw, h⟩, rfl⟩
    exact ⟨q, hq, w, hw, by simpa using h, rfl⟩
  · rintro ⟨q, hq, w, hw, h, rfl⟩
    exact ⟨q, hq, w, ⟨hw, by simpa using h⟩, rfl⟩
theorem row_spec {al : List (List Nat)} : ∀ {n : Nat} {r : Row}, r ∈ rowsN al n → r.1.length = n ∧ r.1.Nodup ∧ (∀ w ∈ r.1, w ∈ al) ∧ r.2 = r.1.foldl glue []
  | 0, r, h => by
    have e : r = ([], []) := by simpa [rowsN] using h
    subst e; simp
  | n + 1, r, h => by
    obtain ⟨q, hq, w, hw, hn, rfl⟩ := mem_row.mp h
    obtain ⟨h1, h2, h3, h4⟩ := row_spec hq
    refine ⟨by simp [h1], ?_, fun x hx => ?_, by simp [h4]⟩
    · rw [List.nodup_append]
      exact ⟨h2, by simp, fun a ha b hb e => by
        have : b = w := by simpa using hb
        rw [e, this] at ha; exact hn ha⟩
    · rcases List.mem_append.mp hx with z | z
      · exact h3 x z
      · have : x = w := by simpa using z
        rw [this]; exact hw
theorem row_mem {al : List (List Nat)} : ∀ (n : Nat) (u : List (List Nat)), u.length = n → u.Nodup → (∀ w ∈ u, w ∈ al) → (u, u.foldl glue []) ∈ rowsN al n
  | 0, u, h, _, _ => by
    have : u = [] := List.length_eq_zero_iff.mp h
    subst this; simp [rowsN]
  | n + 1, u, h, nd, hm => by
    have hne : u ≠ [] := fun e => by rw [e] at h; cases h
    have e : u = u.dropLast ++ [u.getLast hne] := (List.dropLast_concat_getLast hne).symm
    rw [e] at nd hm ⊢
    rw [List.nodup_append] at nd
    have ih := row_mem n u.dropLast (by rw [List.length_dropLast]; omega) nd.1 fun w hw => hm w (List.mem_append_left _ hw)
    refine mem_row.mpr ⟨_, ih, u.getLast hne, hm _ (by simp), fun z => nd.2.2 _ z _ (by simp) rfl, by simp⟩
theorem fold_has : ∀ (u : List (List Nat)) (s : List Nat), isIn s (u.foldl glue s) = true ∧ ∀ w ∈ u, isIn w (u.foldl glue s) = true
  | [], s => ⟨isIn_refl s, fun _ h => nomatch h⟩
  | x :: u, s => by
    obtain ⟨h1, h2⟩ := fold_has u (glue s x)
    refine ⟨isIn_trans (in_glue_left s x) h1, fun w hw => ?_⟩
    rcases List.mem_cons.mp hw with rfl | hw
    · exact isIn_trans (in_glue_right s w) h1
    · exact h2 w hw
theorem row_has {al : List (List Nat)} (nd : al.Nodup) {r : Row} (h : r ∈ rowsN al al.length) {w : List Nat} (hw : w ∈ al) : isIn w r.2 = true := by
  obtain ⟨h1, h2, h3, h4⟩ := row_spec h
  have hs : w ∈ r.1 := by
    refine Classical.byContradiction fun n => ?_
    have h5 : (w :: r.1).Nodup := List.nodup_cons.mpr ⟨n, h2⟩
    have h6 := List.Nodup.length_le_of_subset h5 (fun x hx => by
      rcases List.mem_cons.mp hx with rfl | hx
      · exact hw
      · exact h3 x hx : (w :: r.1) ⊆ al)
    simp at h6
    omega
  rw [h4]
  exact (fold_has r.1 []).2 w hs
/-! ## any string that has all the words is as long as some order -/
def At (t : List Nat) (p : Nat) (w : List Nat) : Prop := (t.drop p).take w.length = w ∧ p + w.length ≤ t.length
theorem isIn_at {w t : List Nat} : isIn w t = true ↔ ∃ p, At t p w := by
  rw [isIn_iff]
  constructor
  · rintro ⟨p, q, rfl⟩
    exact ⟨p.length, by simp, by simp⟩
  · rintro ⟨p, h1, h2⟩
    refine ⟨t.take p, t.drop (p + w.length), ?_⟩
    rw [List.append_assoc]
    conv => lhs; rw [← List.take_append_drop p t]
    congr 1
    conv => lhs; rw [← List.take_append_drop w.length (t.drop p), h1, List.drop_drop]
theorem at_in {t a b : List Nat} {p q : Nat} (ha : At t p a) (hb : At t q b) (h1 : p ≤ q) (h2 : q + b.length ≤ p + a.length) : isIn b a = true := by
  refine isIn_at.mpr ⟨q - p, ?_, by omega⟩
  have e1 : a.drop (q - p) = (t.drop q).take (a.length - (q - p)) := by
    rw [← ha.1, List.drop_take, List.drop_drop, ha.1]
    congr 2; omega
  rw [e1, List.take_take, Nat.min_eq_left (by omega)]
  exact hb.1
theorem at_over {t a b : List Nat} {p q : Nat} (ha : At t p a) (hb : At t q b) (h1 : p ≤ q) (h2 : q ≤ p + a.length) (h3 : p + a.length ≤ q + b.length) : a.drop (q - p) = b.take (p + a.length - q) := by
  have e1 : a.drop (q - p) = (t.drop q).take (a.length - (q - p)) := by
    rw [← ha.1, List.drop_take, List.drop_drop, ha.1]
    congr 2; omega
  rw [e1]
  conv => rhs; rw [← hb.1]
  rw [List.take_take, Nat.min_eq_left (by omega)]
  congr 1; omega
theorem chain_len {t : List Nat} (pos : List Nat → Nat) : ∀ (u : List (List Nat)) (a s : List Nat), (∀ w ∈ a :: u, At t (pos w) w) → (a :: u).Pairwise (fun x y => pos x < pos y ∧ pos x + x.length < pos y + y.length) → (∃ p, s = p ++ a) → s.length ≤ pos a + a.length →
    (u.foldl glue s).length ≤ t.length
  | [], a, s, h, _, _, hl => by
    have := (h a List.mem_cons_self).2
    show s.length ≤ _
    omega
  | b :: u, a, s, h, hp, ⟨p, e⟩, hl => by
    obtain ⟨hp1, hp2⟩ := List.pairwise_cons.mp hp
    obtain ⟨h1, h2⟩ := hp1 b List.mem_cons_self
    have ha := h a List.mem_cons_self
    have hb := h b (List.mem_cons_of_mem _ List.mem_cons_self)
    refine chain_len pos u b (glue s b) (fun w hw => h w (List.mem_cons_of_mem _ hw)) hp2 (glue_end s b) ?_
    have hg := glue_length s b
    rcases Nat.lt_or_ge (pos b) (pos a + a.length) with q | q
    · have e1 := at_over ha hb (by omega) (by omega) (by omega)
      have hc := ce_max s b (pos a + a.length - pos b) (by
        have : s.length = p.length + a.length := by rw [e]; simp
        omega) (by
        have ls : s.length = p.length + a.length := by rw [e]; simp
        rw [e, List.drop_append, List.drop_of_length_le (by simp; omega), List.nil_append, ← e1]
        congr 1
        simp; omega)
      omega
    · omega
theorem short_row {al : List (List Nat)} (g : Good al) {t : List Nat} (h : ∀ w ∈ al, isIn w t = true) : ∃ r ∈ rowsN al al.length, r.2.length ≤ t.length := by
  have hpos : ∃ pos : List Nat → Nat, ∀ w ∈ al, At t (pos w) w := by
    refine ⟨fun w => if hw : isIn w t = true then (isIn_at.mp hw).choose else 0, fun w hw => ?_⟩
    have := h w hw
    simp only [this, dif_pos]
    exact (isIn_at.mp this).choose_spec
  obtain ⟨pos, hpos⟩ := hpos
  let u := al.mergeSort fun x y => decide (pos x ≤ pos y)
  have pu : u.Perm al := List.mergeSort_perm _ _
  have mu : ∀ w, w ∈ u ↔ w ∈ al := fun w => pu.mem_iff
  have su : u.Pairwise (fun x y => decide (pos x ≤ pos y) = true) := List.pairwise_mergeSort (fun a b c h1 h2 => by simp at *; omega) (fun a b => by simp; omega) al
  have nu : u.Nodup := pu.nodup_iff.mpr g.nd
  have strict : u.Pairwise (fun x y => pos x < pos y ∧ pos x + x.length < pos y + y.length) := by
    refine (List.Pairwise.and_mem.mp (su.and nu)).imp fun {x y} ⟨hx, hy, h1, h2⟩ => ?_
    have h1 : pos x ≤ pos y := of_decide_eq_true h1
    have ax := hpos x ((mu x).mp hx)
    have ay := hpos y ((mu y).mp hy)
    have e2 : pos x + x.length < pos y + y.length := by
      rcases Nat.lt_or_ge (pos x + x.length) (pos y + y.length) with z | z
      · exact z
      · exact absurd (g.ap y ((mu y).mp hy) x ((mu x).mp hx) (at_in ax ay h1 z)).symm h2
    refine ⟨?_, e2⟩
    rcases Nat.lt_or_ge (pos x) (pos y) with z | z
    · exact z
    · exact absurd (g.ap x ((mu x).mp hx) y ((mu y).mp hy) (at_in ay ax z (by omega))) h2
  have hr := row_mem (al := al) u.length u rfl nu fun w hw => (mu w).mp hw
  rw [pu.length_eq] at hr
  refine ⟨_, hr, ?_⟩
  show (u.foldl glue []).length ≤ t.length
  cases hu : u with
  | nil => simp
  | cons a v =>
    rw [hu] at strict
    have e0 : glue [] a = a := by simp [glue, ce, ceF]
    rw [List.foldl_cons, e0]
    exact chain_len pos v a a (fun w hw => hpos w ((mu w).mp (by rw [hu]; exact hw))) strict ⟨[], rfl⟩ (by omega)
/-! ## the best -/
def bestJ (ws : List (List Nat)) : Nat × List Nat := pickL ltPair ((rowsN (alone ws) (alone ws).length).map fun r => (r.2.length, r.2))
theorem rows_ne (al : List (List Nat)) (nd : al.Nodup) : rowsN al al.length ≠ [] := by
  have := row_mem (al := al) al.length al rfl nd fun _ h => h
  intro e; rw [e] at this; cases this
theorem bestJ_mem {ws : List (List Nat)} (nd : ws.Nodup) : ∃ r ∈ rowsN (alone ws) (alone ws).length, bestJ ws = (r.2.length, r.2) := by
  have h : (rowsN (alone ws) (alone ws).length).map (fun r => (r.2.length, r.2)) ≠ [] := fun e => rows_ne _ (good_alone nd).nd (List.map_eq_nil_iff.mp e)
  obtain ⟨r, hr, e⟩ := List.mem_map.mp (pickL_mem ltPair h)
  exact ⟨r, hr, e.symm⟩
theorem bestJ_least {ws : List (List Nat)} {r : Row} (hr : r ∈ rowsN (alone ws) (alone ws).length) : (bestJ ws).1 ≤ r.2.length := by
  have h := pickL_least ltPair (fun p => (p.1 : Int)) (fun x y q => by unfold ltPair; exact decide_eq_true (.inl (by omega))) (fun x y q => by
    unfold ltPair at q
    have q := of_decide_eq_true q
    omega) (List.mem_map.mpr ⟨r, hr, rfl⟩ : (r.2.length, r.2) ∈ (rowsN (alone ws) (alone ws).length).map fun r => (r.2.length, r.2))
  have h' : (((bestJ ws).1 : Nat) : Int) ≤ (r.2.length : Int) := h
  omega
theorem bestJ_has {ws : List (List Nat)} (nd : ws.Nodup) {w : List Nat} (hw : w ∈ ws) : isIn w (bestJ ws).2 = true := by
  obtain ⟨r, hr, e⟩ := bestJ_mem nd
  obtain ⟨a, ha, h⟩ := in_alone' hw
  rw [e]
  exact isIn_trans h (row_has (good_alone nd).nd hr ha)
theorem bestJ_len {ws : List (List Nat)} (nd : ws.Nodup) : (bestJ ws).1 = (bestJ ws).2.length := by
  obtain ⟨r, hr, e⟩ := bestJ_mem nd
  rw [e]
theorem greedy_ge {ws : List (List Nat)} (nd : ws.Nodup) : (bestJ ws).1 ≤ (greedy ws).length := by
  obtain ⟨r, hr, h⟩ := short_row (good_alone nd) (t := greedy ws) fun w hw => greedy_has nd (mem_alone.mp hw).1
  exact Nat.le_trans (bestJ_least hr) h
theorem greedy_two {ws : List (List Nat)} (nd : ws.Nodup) (ne : ws ≠ []) (h : ws.length < 3) : (greedy ws).length = (bestJ ws).1 := by
  refine Nat.le_antisymm ?_ (greedy_ge nd)
  have hl : (alone ws).length ≤ ws.length := List.length_filter_le _ _
  have h0 : 0 < (alone ws).length := List.length_pos_iff.mpr (alone_ne ne)
  obtain ⟨r, hr, e⟩ := bestJ_mem nd
  have e1 : (bestJ ws).1 = r.2.length := by rw [e]
  rw [e1]
  have g := good_alone nd
  have go := greedy_one nd ne
  obtain ⟨s1, s2, s3, s4⟩ := row_spec hr
  match q : alone ws with
  | [] => rw [q] at h0; cases h0
  | [a] =>
    rw [q] at go s1 s3
    have eg : greedy ws = a := by simpa [greedyN] using go.symm
    match z : r.1, s1 with
    | [b], _ =>
      have : b = a := by simpa using s3 b (by rw [z]; simp)
      rw [s4, z, this, eg]
      simp [glue, ce, ceF]
  | [a, b] =>
    have h2 : 2 ≤ (alone ws).length := by rw [q]; simp
    obtain ⟨b1, b2, b3, -, b5⟩ := bestG_spec g h2
    have eg : greedyN 1 (alone ws) = [greedy ws] := by
      have : (alone ws).length - 1 = 1 := by rw [q]; rfl
      rw [this] at go; exact go
    have hf : stepG (alone ws) = [greedy ws] := eg
    have hm : glue (bestG (alone ws)).2.1 (bestG (alone ws)).2.2 ∈ stepG (alone ws) := mem_step.mpr (.inr rfl)
    rw [hf] at hm
    have e2 : glue (bestG (alone ws)).2.1 (bestG (alone ws)).2.2 = greedy ws := by simpa using hm
    rw [← e2]
    generalize (bestG (alone ws)).2.1 = x at *
    generalize (bestG (alone ws)).2.2 = y at *
    rw [q] at s1 s3 b1 b2 b5
    match z : r.1, s1 with
    | [c, d], _ =>
      rw [z] at s2 s3
      have cne : d ≠ c := fun w => by rw [w] at s2; simp at s2
      have hc := s3 c (by simp)
      have hd := s3 d (by simp)
      have h5 := b5 c hc d hd cne
      have g1 := glue_length x y
      have g2 := glue_length c d
      have e3 : r.2 = glue c d := by rw [s4, z]; simp [glue, ce, ceF]
      rw [e3]
      have e4 : c.length + d.length = x.length + y.length := by
        simp at hc hd b1 b2
        rcases hc with rfl | rfl <;> rcases hd with rfl | rfl <;> rcases b1 with rfl | rfl <;> rcases b2 with rfl | rfl <;> first | omega | (exact absurd rfl cne) | (exact absurd rfl b3)
      omega
  | a :: b :: c :: l => rw [q] at hl; simp at hl; omega
theorem glue_mem {a b : List Nat} {c : Nat} (h : c ∈ glue a b) : c ∈ a ∨ c ∈ b := by
  unfold glue at h
  rcases List.mem_append.mp h with z | z
  · exact .inl z
  · exact .inr (List.mem_of_mem_drop z)
theorem fold_mem {c : Nat} : ∀ (u : List (List Nat)) (s : List Nat), c ∈ u.foldl glue s → c ∈ s ∨ ∃ w ∈ u, c ∈ w
  | [], s, h => .inl h
  | x :: u, s, h => by
    rcases fold_mem u (glue s x) h with z | ⟨w, hw, z⟩
    · rcases glue_mem z with z | z
      · exact .inl z
      · exact .inr ⟨x, List.mem_cons_self, z⟩
    · exact .inr ⟨w, List.mem_cons_of_mem _ hw, z⟩
theorem best_mem {ws : List (List Nat)} (nd : ws.Nodup) {c : Nat} (h : c ∈ (bestJ ws).2) : ∃ w ∈ ws, c ∈ w := by
  obtain ⟨r, hr, e⟩ := bestJ_mem nd
  rw [e] at h
  obtain ⟨h1, h2, h3, h4⟩ := row_spec hr
  have h' : c ∈ r.1.foldl glue [] := by rw [← h4]; exact h
  rcases fold_mem r.1 [] h' with z | ⟨w, hw, z⟩
  · cases z
  · exact ⟨w, (mem_alone.mp (h3 w hw)).1, z⟩
theorem greedyN_mem {l : List (List Nat)} (g : Good l) : ∀ n, n + 1 ≤ l.length → ∀ a ∈ greedyN n l, ∀ c ∈ a, ∃ w ∈ l, c ∈ w
  | 0, _, a, ha, c, hc => ⟨a, ha, hc⟩
  | n + 1, h, a, ha, c, hc => by
    obtain ⟨h1, h2, h3, h4⟩ := greedyN_good g n (by omega)
    rw [greedyN_succ] at ha
    obtain ⟨b1, b2, -, -, -⟩ := bestG_spec h1 (by omega)
    rcases mem_step.mp ha with ⟨z, _, _⟩ | rfl
    · exact greedyN_mem g n (by omega) a z c hc
    · rcases glue_mem hc with z | z
      · exact greedyN_mem g n (by omega) _ b1 c z
      · exact greedyN_mem g n (by omega) _ b2 c z
theorem greedy_mem {ws : List (List Nat)} (nd : ws.Nodup) (ne : ws ≠ []) {c : Nat} (h : c ∈ greedy ws) : ∃ w ∈ ws, c ∈ w := by
  have h0 : 0 < (alone ws).length := List.length_pos_iff.mpr (alone_ne ne)
  obtain ⟨w, hw, z⟩ := greedyN_mem (good_alone nd) ((alone ws).length - 1) (by omega) (greedy ws) (by rw [greedy_one nd ne]; simp) c h
  exact ⟨w, (mem_alone.mp hw).1, z⟩
theorem greedy_sum {ws : List (List Nat)} (nd : ws.Nodup) (ne : ws ≠ []) : (greedy ws).length ≤ ((alone ws).map List.length).sum := by
  have h0 : 0 < (alone ws).length := List.length_pos_iff.mpr (alone_ne ne)
  obtain ⟨-, -, h3, -⟩ := greedyN_good (good_alone nd) ((alone ws).length - 1) (by omega)
  rw [greedy_one nd ne] at h3
  simpa using h3
end
end K65
set_option linter.all false
set_option maxRecDepth 100000
set_option maxHeartbeats 2000000
set_option autoImplicit false
namespace K65
open PySem PySem.Spec PyProof.Rows L2 TL
section
variable {P : Program} {w : World} {K : PySem.W.Frag} {mg : Str → Option Value} {base : Heap}
def e_common_end : List Nat × List Nat → List PyData := fun x => [.str (S x.1), .str (S x.2)]
def F_common_end : List Nat × List Nat → FOut := fun x => ⟨.sh (.int (ce x.1 x.2)), x.1.length ≤ 1000 ∧ x.2.length ≤ 1000⟩
noncomputable def P_common_end : List PyData → FOut := liftP e_common_end F_common_end
theorem inj_common_end : ∀ x y, e_common_end x = e_common_end y → x = y := by
  rintro ⟨a, b⟩ ⟨c, d⟩ h
  simpa [e_common_end] using h
@[simp] theorem P_common_end_eq (a b : List Nat) : P_common_end [.str (S a), .str (S b)] = ⟨.sh (.int (ce a b)), a.length ≤ 1000 ∧ b.length ≤ 1000⟩ := liftP_eq (F := F_common_end) inj_common_end (a, b)
abbrev s_common_end : Stmt := topS 12
theorem sc_common_end : FnScope ["one", "other", "many"] ["one", "other"] (defScope s_common_end) := ⟨rfl, rfl, rfl, by decide +kernel, rfl, by decide +kernel, by decide +kernel⟩
theorem ok_common_end {f : Addr} {fd : FuncData} {k : Nat} (h : HD K mg "common_end" ["one", "other"] s_common_end f fd) (NB : ∀ x : Str, x ∈ blts → mg x = none) : FnP P w K mg base (k + 1) "common_end" ["one", "other"] f fd (spP K P_common_end 2) := by
  refine fnT h sc_common_end (fun cdv A out s H E hgu hr => xss_cons (xs_for PassesOwn.never rfl (xi_pure (pvi_down (NB _ (by decide)) (pv_callB (call_min2 rfl) con_min2 (NB _ (by decide)) (pvs_cons (pv_callB call_len con_len (NB _ (by decide)) (pvs_cons (pv_name 0) pvs_nil)) (pvs_cons (pv_callB call_len con_len (NB _ (by decide)) (pvs_cons (pv_name 1) pvs_nil)) pvs_nil))) (pv_int))) (pg_name (i := 2) sc_common_end.nd rfl (by first | exact .inl rfl | exact .inr rfl)) (tgo_name 2) (xss_one (xs_if (xt_pure (pvt_cmp (op_eqP hr.units) con_eq (pv_slice (pv_name 0) (po_s (pv_sub (pv_callB call_len con_len (NB _ (by decide)) (pvs_cons (pv_name 0) pvs_nil)) (pv_name 2))) po_n) (pv_slice (pv_name 1) po_n (po_s (pv_name 2))) (nomark _))) (xss_one (xs_ret (xv_pure (pv_name 2)))) xss_nil))) (xss_one (xs_ret (xv_pure (pv_int))))) ?_
  rintro ⟨a, b⟩ ⟨ha, hb⟩
  simp only [e_common_end, F_common_end] at *
  refine seq_i fun N hN => ?_
  refine for_rng (min a.length b.length) (fun k => .int (((min a.length b.length : Nat) : Int) - (k : Nat))) [some (.sh (.str (S a))), some (.sh (.str (S b))), none] (fun i ρ => (∃ m, ρ = [some (.sh (.str (S a))), some (.sh (.str (S b))), m]) ∧ ceF a b (min a.length b.length - i) = ce a b) ?_ ?_ ⟨⟨_, rfl⟩, rfl⟩ ?_ ?_
  · simp [if_min, rngDown_nat]
  · simp [if_min]
    omega
  · rintro i ρ' hi ⟨⟨m, rfl⟩, hc⟩
    obtain ⟨q, hq, hq0⟩ : ∃ q : Nat, q = min a.length b.length - i ∧ 0 < q := ⟨_, rfl, by omega⟩
    have e2 : ((a.length : Int) - (q : Int)) = ((a.length - q : Nat) : Int) := by omega
    have e3 : (((min a.length b.length : Nat) : Int) - (i : Int)) = ((q : Nat) : Int) := by omega
    have e4 : min a.length b.length - (i + 1) = q - 1 := by omega
    rw [← hq, ceF_pos a b hq0] at hc
    refine ⟨trivial, by simp, if_i ?_ (fun hq => ?_) (fun hq => ?_)⟩
    · simp; omega
    · simp [e2, e3] at hq ⊢
      rw [← hc, if_pos hq]
    · simp [e2, e3] at hq ⊢
      rw [← hc, if_neg hq, e4]
  · rintro ρ' ⟨⟨m, rfl⟩, hc⟩
    subst hN
    simp at hc
    simp [← hc, ceF]
def isLow (c : Nat) : Bool := decide (97 ≤ c ∧ c ≤ 122)
def e_is_letter : Nat → List PyData := fun c => [.str (S [c])]
def F_is_letter : Nat → FOut := fun c => ⟨.sh (.bool (isLow c)), True⟩
noncomputable def P_is_letter : List PyData → FOut := liftP e_is_letter F_is_letter
theorem inj_is_letter : ∀ x y, e_is_letter x = e_is_letter y → x = y := by
  rintro a b h
  simpa [e_is_letter] using h
@[simp] theorem P_is_letter_eq (c : Nat) : P_is_letter [.str (S [c])] = ⟨.sh (.bool (isLow c)), True⟩ := liftP_eq (F := F_is_letter) inj_is_letter c
abbrev s_is_letter : Stmt := topS 6
theorem sc_is_letter : FnScope ["value"] ["value"] (defScope s_is_letter) := ⟨rfl, rfl, rfl, by decide +kernel, rfl, by decide +kernel, by decide +kernel⟩
theorem ok_is_letter {f : Addr} {fd : FuncData} {k : Nat} (h : HD K mg "is_letter" ["value"] s_is_letter f fd) (NB : ∀ x : Str, x ∈ blts → mg x = none) : FnP P w K mg base (k + 1) "is_letter" ["value"] f fd (spP K P_is_letter 1) := by
  refine fnT h sc_is_letter (fun cdv A out s H E hgu hr => xss_one (xs_ret (xv_pure (pv_and (pv_isi (T := "str") (.inr (.inr (.inl rfl))) (NB _ (by decide)) (NB _ (by decide)) (pv_name 0)) (pv_and (pv_cmp (op_eqP hr.units) con_eq (pv_callB call_len con_len (NB _ (by decide)) (pvs_cons (pv_name 0) pvs_nil)) (pv_int) (nomark _)) (pv_one (pv_chain (op_leP hr.units) (op_leP hr.units) (pv_str) (pv_name 0) (pv_str)))))))) ?_
  rintro c -
  simp [e_is_letter, F_is_letter]
  unfold isLow
  rw [Bool.eq_iff_iff]
  simp
def d_MOST_LETTERS : PyData := .int 12
def isWord (w : List Nat) : Bool := decide (1 ≤ w.length ∧ w.length ≤ 12) && w.all isLow
def e_is_word : List Nat → List PyData := fun w => [.str (S w)]
def F_is_word : List Nat → FOut := fun w => ⟨.sh (.bool (isWord w)), w.length ≤ 1000⟩
noncomputable def P_is_word : List PyData → FOut := liftP e_is_word F_is_word
theorem inj_is_word : ∀ x y, e_is_word x = e_is_word y → x = y := by
  rintro a b h
  simpa [e_is_word] using h
@[simp] theorem P_is_word_eq (w : List Nat) : P_is_word [.str (S w)] = ⟨.sh (.bool (isWord w)), w.length ≤ 1000⟩ := liftP_eq (F := F_is_word) inj_is_word w
abbrev s_is_word : Stmt := topS 7
theorem sc_is_word : FnScope ["value", "letter"] ["value"] (defScope s_is_word) := ⟨rfl, rfl, rfl, by decide +kernel, rfl, by decide +kernel, by decide +kernel⟩
theorem ok_is_word {f : Addr} {fd : FuncData} {k : Nat} (h : HD K mg "is_word" ["value"] s_is_word f fd) {f_is_letter : Addr} {fd_is_letter : FuncData} (c_is_letter : FnP P w K mg base k "is_letter" ["value"] f_is_letter fd_is_letter (spP K P_is_letter 1)) {u_MOST_LETTERS : Value} (g_MOST_LETTERS : mg "MOST_LETTERS" = some u_MOST_LETTERS) (r_MOST_LETTERS : RelV (toV d_MOST_LETTERS) u_MOST_LETTERS) (NB : ∀ x : Str, x ∈ blts → mg x = none) : FnP P w K mg base (k + 1) "is_word" ["value"] f fd (spP K P_is_word 1) := by
  refine fnT h sc_is_word (fun cdv A out s H E hgu hr => xss_cons (xs_if (xt_pure (pvt_w (pvw_or (pvt_not (pvt_val (pv_isi (T := "str") (.inr (.inr (.inl rfl))) (NB _ (by decide)) (NB _ (by decide)) (pv_name 0)))) (pvw_or1 (pvt_not (pvt_chain (op_leP hr.units) (op_leP hr.units) (pv_int) (pv_callB call_len con_len (NB _ (by decide)) (pvs_cons (pv_name 0) pvs_nil)) (pv_glob d_MOST_LETTERS g_MOST_LETTERS trivial r_MOST_LETTERS))))))) (xss_one (xs_ret (xv_pure (pv_bl)))) xss_nil) (xss_one (xs_ret (xv_pure (pv_callB (cr_all rfl) con_all (NB _ (by decide)) (pvs_cons (pv_comp rfl sc_is_word.nd (blkOk_by (own := [("letter", 1)]) (by kernel_rfl)) (pvi_seq (pv_name 0)) (tgo_name 1) rfl (fun _ _ _ _ _ => (pg_name (i := 1) sc_is_word.nd rfl (by first | exact .inl rfl | exact .inr rfl))) (fun _ _ _ _ _ => pvts_nil) (fun _ _ _ _ _ => pv_call c_is_letter hgu hr (pvs_cons (pv_name 1) pvs_nil))) pvs_nil)))))) ?_
  rintro w hw
  simp only [e_is_word, F_is_word] at *
  refine seq_i fun N hN => if_i ?_ (fun hq => ?_) (fun hq => ?_)
  · simp [d_MOST_LETTERS]; omega
  · simp [d_MOST_LETTERS] at hq ⊢
    simp [isWord]; omega
  · subst hN
    simp [d_MOST_LETTERS, Function.comp_def] at hq ⊢
    refine ⟨by omega, ?_⟩
    have h1 : 1 ≤ w.length ∧ w.length ≤ 12 := by omega
    simp [isWord, h1]
def e_check_word : List Nat → List PyData := fun w => [.str (S w)]
def F_check_word : List Nat → FOut := fun w => ⟨.sh .none, w.length ≤ 1000 ∧ isWord w = true⟩
noncomputable def P_check_word : List PyData → FOut := liftP e_check_word F_check_word
@[simp] theorem P_check_word_eq (w : List Nat) : P_check_word [.str (S w)] = ⟨.sh .none, w.length ≤ 1000 ∧ isWord w = true⟩ := liftP_eq (F := F_check_word) inj_is_word w
abbrev s_check_word : Stmt := topS 8
theorem sc_check_word : FnScope ["word"] ["word"] (defScope s_check_word) := ⟨rfl, rfl, rfl, by decide +kernel, rfl, by decide +kernel, by decide +kernel⟩
theorem ok_check_word {f : Addr} {fd : FuncData} {k : Nat} (h : HD K mg "check_word" ["word"] s_check_word f fd) {f_is_word : Addr} {fd_is_word : FuncData} (c_is_word : FnP P w K mg base k "is_word" ["value"] f_is_word fd_is_word (spP K P_is_word 1)) : FnP P w K mg base (k + 1) "check_word" ["word"] f fd (spP K P_check_word 1) := by
  refine fnT h sc_check_word (fun cdv A out s H E hgu hr => xss_one (xs_if (xt_pure (pvt_not (pvt_val (pv_call c_is_word hgu hr (pvs_cons (pv_name 0) pvs_nil))))) (xss_one (xs_never)) xss_nil)) ?_
  rintro w ⟨hw, h2⟩
  simp [e_check_word, F_check_word, hw, h2]
def e_are_words : List (List Nat) → List PyData := fun ws => [.list (ws.map fun w => .str (S w))]
def ascW (ws : List (List Nat)) : Bool := (List.range (ws.length - 1)).all fun k => decide (ws.getD k [] < ws.getD (k + 1) [])
def areWords (ws : List (List Nat)) : Bool := !ws.isEmpty && ws.all isWord && ascW ws
def okWs (ws : List (List Nat)) : Prop := ws.length ≤ 1000 ∧ ∀ w ∈ ws, w.length ≤ 1000
def F_are_words : List (List Nat) → FOut := fun ws => ⟨.sh (.bool (areWords ws)), okWs ws⟩
noncomputable def P_are_words : List PyData → FOut := liftP e_are_words F_are_words
theorem inj_are_words : ∀ x y, e_are_words x = e_are_words y → x = y := by
  rintro a b h
  simpa only [e_are_words, List.cons.injEq, PyData.list.injEq, map_S_inj, and_true] using h
@[simp] theorem P_are_words_eq (ws : List (List Nat)) : P_are_words [.list (ws.map fun w => .str (S w))] = ⟨.sh (.bool (areWords ws)), okWs ws⟩ := liftP_eq (F := F_are_words) inj_are_words ws
abbrev s_are_words : Stmt := topS 9
theorem sc_are_words : FnScope ["value", "at", "word"] ["value"] (defScope s_are_words) := ⟨rfl, rfl, rfl, by decide +kernel, rfl, by decide +kernel, by decide +kernel⟩
theorem ok_are_words {f : Addr} {fd : FuncData} {k : Nat} (h : HD K mg "are_words" ["value"] s_are_words f fd) {f_is_word : Addr} {fd_is_word : FuncData} (c_is_word : FnP P w K mg base k "is_word" ["value"] f_is_word fd_is_word (spP K P_is_word 1)) (NB : ∀ x : Str, x ∈ blts → mg x = none) : FnP P w K mg base (k + 1) "are_words" ["value"] f fd (spP K P_are_words 1) := by
  refine fnT h sc_are_words (fun cdv A out s H E hgu hr => xss_cons (xs_if (xt_pure (pvt_w (pvw_or (pvt_not (pvt_val (pv_isi (T := "list") (.inr (.inr (.inr (.inl rfl)))) (NB _ (by decide)) (NB _ (by decide)) (pv_name 0)))) (pvw_or (pvt_cmp (op_eqP hr.units) con_eq (pv_name 0) (pv_lst pvs_nil) (nomark _)) (pvw_or1 (pvt_not (pvt_val (pv_callB (cr_all rfl) con_all (NB _ (by decide)) (pvs_cons (pv_comp rfl sc_are_words.nd (blkOk_by (own := [("word", 2)]) (by kernel_rfl)) (pvi_seq (pv_name 0)) (tgo_name 2) rfl (fun _ _ _ _ _ => (pg_name (i := 2) sc_are_words.nd rfl (by first | exact .inl rfl | exact .inr rfl))) (fun _ _ _ _ _ => pvts_nil) (fun _ _ _ _ _ => pv_call c_is_word hgu hr (pvs_cons (pv_name 2) pvs_nil))) pvs_nil))))))))) (xss_one (xs_ret (xv_pure (pv_bl)))) xss_nil) (xss_one (xs_ret (xv_pure (pv_callB (cr_all rfl) con_all (NB _ (by decide)) (pvs_cons (pv_comp rfl sc_are_words.nd (blkOk_by (own := [("at", 1)]) (by kernel_rfl)) (pvi_range2 (NB _ (by decide)) (pv_int) (pv_callB call_len con_len (NB _ (by decide)) (pvs_cons (pv_name 0) pvs_nil))) (tgo_name 1) rfl (fun _ _ _ _ _ => (pg_name (i := 1) sc_are_words.nd rfl (by first | exact .inl rfl | exact .inr rfl))) (fun _ _ _ _ _ => pvts_nil) (fun _ _ _ _ _ => pv_cmp (op_ltP hr.units) con_ord (pv_ix (pv_name 0) (pv_sub (pv_name 1) (pv_int))) (pv_ix (pv_name 0) (pv_name 1)) (nomark _))) pvs_nil)))))) ?_
  rintro ws ⟨h1, h2⟩
  simp only [e_are_words, F_are_words] at *
  refine seq_i fun N hN => if_i ?_ (fun hq => ?_) (fun hq => ?_)
  · simp [Function.comp_def]
    intro _
    exact ⟨by omega, h2⟩
  · simp [Function.comp_def] at hq ⊢
    rcases hq with rfl | ⟨x, hx, hq⟩
    · rfl
    · have : ws.all isWord = false := by rw [List.all_eq_false]; exact ⟨x, hx, by rw [hq]; decide⟩
      simp [areWords, this]
  · subst hN
    have e1 : ((ws.length : Int) - 1).toNat = ws.length - 1 := by omega
    have e2 : ∀ k, k < ws.length - 1 → atI ws (1 + (k : Int) - 1) = some (ws.getD k []) := fun k hk => by
      rw [atI_at ws _ k (by omega), List.getD_eq_getElem?_getD, List.getElem?_eq_getElem (by omega)]; rfl
    have e3 : ∀ k, k < ws.length - 1 → atI ws (1 + (k : Int)) = some (ws.getD (k + 1) []) := fun k hk => by
      rw [atI_at ws _ (k + 1) (by omega), List.getD_eq_getElem?_getD, List.getElem?_eq_getElem (by omega)]; rfl
    simp [Function.comp_def, e1] at hq ⊢
    refine ⟨⟨by omega, by omega, fun a ha => ?_⟩, ?_⟩
    · simp [e2 a ha, e3 a ha]
    · have e4 : areWords ws = ascW ws := by simp [areWords, hq.1]; exact fun _ => hq.2
      rw [e4, Bool.eq_iff_iff]
      simp only [ascW, List.all_eq_true, List.mem_range]
      constructor
      · intro h k hk; simpa [e2 k hk, e3 k hk] using h k hk
      · intro h k hk; simpa [e2 k hk, e3 k hk] using h k hk
def F_check_words : List (List Nat) → FOut := fun ws => ⟨.sh .none, okWs ws ∧ areWords ws = true⟩
noncomputable def P_check_words : List PyData → FOut := liftP e_are_words F_check_words
@[simp] theorem P_check_words_eq (ws : List (List Nat)) : P_check_words [.list (ws.map fun w => .str (S w))] = ⟨.sh .none, okWs ws ∧ areWords ws = true⟩ := liftP_eq (F := F_check_words) inj_are_words ws
abbrev s_check_words : Stmt := topS 10
theorem sc_check_words : FnScope ["words"] ["words"] (defScope s_check_words) := ⟨rfl, rfl, rfl, by decide +kernel, rfl, by decide +kernel, by decide +kernel⟩
theorem ok_check_words {f : Addr} {fd : FuncData} {k : Nat} (h : HD K mg "check_words" ["words"] s_check_words f fd) {f_are_words : Addr} {fd_are_words : FuncData} (c_are_words : FnP P w K mg base k "are_words" ["value"] f_are_words fd_are_words (spP K P_are_words 1)) : FnP P w K mg base (k + 1) "check_words" ["words"] f fd (spP K P_check_words 1) := by
  refine fnT h sc_check_words (fun cdv A out s H E hgu hr => xss_one (xs_if (xt_pure (pvt_not (pvt_val (pv_call c_are_words hgu hr (pvs_cons (pv_name 0) pvs_nil))))) (xss_one (xs_never)) xss_nil)) ?_
  rintro ws ⟨hw, h2⟩
  simp [e_are_words, F_check_words, hw, h2]
def F_overlap_of : List Nat × List Nat → FOut := fun x => ⟨.sh (.int (ce x.1 x.2)), isWord x.1 = true ∧ isWord x.2 = true⟩
noncomputable def P_overlap_of : List PyData → FOut := liftP e_common_end F_overlap_of
@[simp] theorem P_overlap_of_eq (a b : List Nat) : P_overlap_of [.str (S a), .str (S b)] = ⟨.sh (.int (ce a b)), isWord a = true ∧ isWord b = true⟩ := liftP_eq (F := F_overlap_of) inj_common_end (a, b)
theorem isWord_len {w : List Nat} (h : isWord w = true) : w.length ≤ 12 := by simp [isWord] at h; omega
abbrev s_overlap_of : Stmt := topS 13
theorem sc_overlap_of : FnScope ["one", "other"] ["one", "other"] (defScope s_overlap_of) := ⟨rfl, rfl, rfl, by decide +kernel, rfl, by decide +kernel, by decide +kernel⟩
theorem ok_overlap_of {f : Addr} {fd : FuncData} {k : Nat} (h : HD K mg "overlap_of" ["one", "other"] s_overlap_of f fd) {f_common_end : Addr} {fd_common_end : FuncData} (c_common_end : FnP P w K mg base k "common_end" ["one", "other"] f_common_end fd_common_end (spP K P_common_end 2)) {f_check_word : Addr} {fd_check_word : FuncData} (c_check_word : FnP P w K mg base k "check_word" ["word"] f_check_word fd_check_word (spP K P_check_word 1)) : FnP P w K mg base (k + 1) "overlap_of" ["one", "other"] f fd (spP K P_overlap_of 2) := by
  refine fnT h sc_overlap_of (fun cdv A out s H E hgu hr => xss_cons (xs_expr (xv_pure (pv_call c_check_word hgu hr (pvs_cons (pv_name 0) pvs_nil)))) (xss_cons (xs_expr (xv_pure (pv_call c_check_word hgu hr (pvs_cons (pv_name 1) pvs_nil)))) (xss_one (xs_ret (xv_pure (pv_call c_common_end hgu hr (pvs_cons (pv_name 0) (pvs_cons (pv_name 1) pvs_nil)))))))) ?_
  rintro ⟨a, b⟩ ⟨ha, hb⟩
  simp only [F_overlap_of] at ha hb
  have h1 := isWord_len ha
  have h2 := isWord_len hb
  simp [e_common_end, F_overlap_of, ha, hb]
  omega
def F_words_alone : List (List Nat) → FOut := fun ws => ⟨.lst ((alone ws).map fun w => .str (S w)), okWs ws⟩
noncomputable def P_words_alone : List PyData → FOut := liftP e_are_words F_words_alone
@[simp] theorem P_words_alone_eq (ws : List (List Nat)) : P_words_alone [.list (ws.map fun w => .str (S w))] = ⟨.lst ((alone ws).map fun w => .str (S w)), okWs ws⟩ := liftP_eq (F := F_words_alone) inj_are_words ws
abbrev s_words_alone : Stmt := topS 14
theorem sc_words_alone : FnScope ["words", "word", "other"] ["words"] (defScope s_words_alone) := ⟨rfl, rfl, rfl, by decide +kernel, rfl, by decide +kernel, by decide +kernel⟩
theorem ok_words_alone {f : Addr} {fd : FuncData} {k : Nat} (h : HD K mg "words_alone" ["words"] s_words_alone f fd) (NB : ∀ x : Str, x ∈ blts → mg x = none) : FnP P w K mg base (k + 1) "words_alone" ["words"] f fd (spP K P_words_alone 1) := by
  refine fnT h sc_words_alone (fun cdv A out s H E hgu hr => xss_one (xs_ret (xv_pure (pv_comp rfl sc_words_alone.nd (blkOk_by (own := [("word", 1)]) (by kernel_rfl)) (pvi_seq (pv_name 0)) (tgo_name 1) rfl (fun _ _ _ _ _ => (pg_name (i := 1) sc_words_alone.nd rfl (by first | exact .inl rfl | exact .inr rfl))) (fun _ _ _ _ _ => pvts_one (pvt_not (pvt_val (pv_callB (cr_any rfl) con_any (NB _ (by decide)) (pvs_cons (pv_comp rfl sc_words_alone.nd (blkOk_by (own := [("other", 2)]) (by kernel_rfl)) (pvi_seq (pv_name 0)) (tgo_name 2) rfl (fun _ _ _ _ _ => (pg_name (i := 2) sc_words_alone.nd rfl (by first | exact .inl rfl | exact .inr rfl))) (fun _ _ _ _ _ => pvts_nil) (fun _ _ _ _ _ => pv_and (pv_cmp (op_inP hr.units) con_in (pv_name 1) (pv_name 2) (by with_unfolding_all rfl)) (pv_one (pv_cmp (op_neP hr.units) con_ne (pv_name 1) (pv_name 2) (nomark _))))) pvs_nil))))) (fun _ _ _ _ _ => pv_name 1))))) ?_
  rintro ws ⟨h1, h2⟩
  simp [e_are_words, F_words_alone, Function.comp_def, List.filter_map, alone]
  exact ⟨by omega, fun _ _ => by omega⟩
def F_told_as_one : List Nat × List Nat → FOut := fun x => ⟨.sh (.str (S (glue x.1 x.2))), x.1.length ≤ 1000 ∧ x.2.length ≤ 1000⟩
noncomputable def P_told_as_one : List PyData → FOut := liftP e_common_end F_told_as_one
@[simp] theorem P_told_as_one_eq (a b : List Nat) : P_told_as_one [.str (S a), .str (S b)] = ⟨.sh (.str (S (glue a b))), a.length ≤ 1000 ∧ b.length ≤ 1000⟩ := liftP_eq (F := F_told_as_one) inj_common_end (a, b)
abbrev s_told_as_one : Stmt := topS 15
theorem sc_told_as_one : FnScope ["one", "other"] ["one", "other"] (defScope s_told_as_one) := ⟨rfl, rfl, rfl, by decide +kernel, rfl, by decide +kernel, by decide +kernel⟩
theorem ok_told_as_one {f : Addr} {fd : FuncData} {k : Nat} (h : HD K mg "told_as_one" ["one", "other"] s_told_as_one f fd) {f_common_end : Addr} {fd_common_end : FuncData} (c_common_end : FnP P w K mg base k "common_end" ["one", "other"] f_common_end fd_common_end (spP K P_common_end 2)) : FnP P w K mg base (k + 1) "told_as_one" ["one", "other"] f fd (spP K P_told_as_one 2) := by
  refine fnT h sc_told_as_one (fun cdv A out s H E hgu hr => xss_one (xs_ret (xv_pure (pv_add (pv_name 0) (pv_slice (pv_name 1) (po_s (pv_call c_common_end hgu hr (pvs_cons (pv_name 0) (pvs_cons (pv_name 1) pvs_nil)))) po_n))))) ?_
  rintro ⟨a, b⟩ ⟨ha, hb⟩
  simp only [F_told_as_one] at ha hb
  simp [e_common_end, F_told_as_one, glue, ha, hb]
  omega
def e_row (r : List (List Nat) × List Nat) : PyData := .tuple [.list (r.1.map fun w => .str (S w)), .str (S r.2)]
theorem stepRow_len (al : List (List Nat)) (r) : (stepRow al r).length ≤ al.length := by
  unfold stepRow; rw [List.length_map]; exact List.length_filter_le _ _
theorem flat_len {α β : Type} (f : α → List β) (n : Nat) (h : ∀ a, (f a).length ≤ n) : ∀ l : List α, (l.flatMap f).length ≤ l.length * n
  | [] => by simp
  | a :: l => by
    have h1 := h a
    have h2 := flat_len f n h l
    rw [List.flatMap_cons, List.length_append, List.length_cons, Nat.succ_mul]
    omega
theorem rowsN_len (al : List (List Nat)) : ∀ n, (rowsN al n).length ≤ al.length ^ n
  | 0 => by simp [rowsN]
  | n + 1 => by
    have h1 := flat_len (stepRow al) al.length (stepRow_len al) (rowsN al n)
    have h2 := rowsN_len al n
    rw [rowsN, Nat.pow_succ]
    exact Nat.le_trans h1 (Nat.mul_le_mul_right _ h2)
theorem rowsN_few {al : List (List Nat)} (h : al.length ≤ 6) {n : Nat} (hn : n ≤ 6) : (rowsN al n).length ≤ 46656 :=
  Nat.le_trans (rowsN_len al n) (Nat.le_trans (Nat.pow_le_pow_left h n) (Nat.le_trans (Nat.pow_le_pow_right (by decide) hn) (by decide)))
theorem rowsN_size {al : List (List Nat)} (h : ∀ w ∈ al, w.length ≤ 12) : ∀ n, ∀ r ∈ rowsN al n, r.1.length = n ∧ r.2.length ≤ 12 * n
  | 0, r, hr => by
    have e : r = ([], []) := by simpa [rowsN] using hr
    subst e; simp
  | n + 1, r, hr => by
    rw [rowsN, List.mem_flatMap] at hr
    obtain ⟨q, hq, hr⟩ := hr
    obtain ⟨h1, h2⟩ := rowsN_size h n q hq
    unfold stepRow at hr
    obtain ⟨w, hw, rfl⟩ := List.mem_map.mp hr
    have h3 := h w (List.mem_filter.mp hw).1
    have h4 := glue_len q.2 w
    refine ⟨by simp [h1], ?_⟩
    show (glue q.2 w).length ≤ _
    omega
def fewWs (ws : List (List Nat)) : Prop := ws.length ≤ 6 ∧ (∀ w ∈ ws, w.length ≤ 12) ∧ ws.Nodup
def F_joined_by_size : List (List Nat) → FOut := fun ws => ⟨.sh (e_pair (bestJ ws)), fewWs ws⟩
noncomputable def P_joined_by_size : List PyData → FOut := liftP e_are_words F_joined_by_size
@[simp] theorem P_joined_by_size_eq (ws : List (List Nat)) : P_joined_by_size [.list (ws.map fun w => .str (S w))] = ⟨.sh (e_pair (bestJ ws)), fewWs ws⟩ := liftP_eq (F := F_joined_by_size) inj_are_words ws
theorem fewWs.ok {ws : List (List Nat)} (h : fewWs ws) : okWs ws := ⟨by have := h.1; omega, fun w hw => by have := h.2.1 w hw; omega⟩
abbrev s_joined_by_size : Stmt := topS 16
theorem sc_joined_by_size : FnScope ["words", "rows", "alone", "turn", "longer", "used", "string", "left", "word"] ["words"] (defScope s_joined_by_size) := ⟨rfl, rfl, rfl, by decide +kernel, rfl, by decide +kernel, by decide +kernel⟩
theorem ok_joined_by_size {f : Addr} {fd : FuncData} {k : Nat} (h : HD K mg "joined_by_size" ["words"] s_joined_by_size f fd) {f_told_as_one : Addr} {fd_told_as_one : FuncData} (c_told_as_one : FnP P w K mg base k "told_as_one" ["one", "other"] f_told_as_one fd_told_as_one (spP K P_told_as_one 2)) {f_words_alone : Addr} {fd_words_alone : FuncData} (c_words_alone : FnP P w K mg base k "words_alone" ["words"] f_words_alone fd_words_alone (spP K P_words_alone 1)) (NB : ∀ x : Str, x ∈ blts → mg x = none) : FnP P w K mg base (k + 1) "joined_by_size" ["words"] f fd (spP K P_joined_by_size 1) := by
  refine fnT h sc_joined_by_size (fun cdv A out s H E hgu hr => xss_cons (xs_set 1 sc_joined_by_size.nd (xv_pure (pv_lst (pvs_cons (pv_tup (pvs_cons (pv_lst pvs_nil) (pvs_cons (pv_str) pvs_nil))) pvs_nil)))) (xss_cons (xs_set 2 sc_joined_by_size.nd (xv_pure (pv_call c_words_alone hgu hr (pvs_cons (pv_name 0) pvs_nil)))) (xss_cons (xs_for PassesOwn.never rfl (xi_pure (pvi_range1 (NB _ (by decide)) (pv_callB call_len con_len (NB _ (by decide)) (pvs_cons (pv_name 2) pvs_nil)))) (pg_name (i := 3) sc_joined_by_size.nd rfl (by first | exact .inl rfl | exact .inr rfl)) (tgo_name 3) (xss_cons (xs_set 4 sc_joined_by_size.nd (xv_pure (pv_lst pvs_nil))) (xss_cons (xs_for PassesOwn.never rfl (xi_pure (pvi_seq (pv_name 1))) (pg_tup rfl (pgs_cons (pg_name (i := 5) sc_joined_by_size.nd rfl (by first | exact .inl rfl | exact .inr rfl)) (pgs_cons (pg_name (i := 6) sc_joined_by_size.nd rfl (by first | exact .inl rfl | exact .inr rfl)) pgs_nil))) (tgo_t2 5 6) (xss_cons (xs_setLc 7  rfl sc_joined_by_size.nd (blkOk_by (own := [("word", 8)]) (by kernel_rfl)) (pvi_seq (pv_name 2)) (tgo_name 8) rfl (fun _ _ _ _ _ => (pg_name (i := 8) sc_joined_by_size.nd rfl (by first | exact .inl rfl | exact .inr rfl))) (fun _ _ _ _ _ => pvts_one (pvt_cmp (op_notInP hr.units) con_notIn (pv_name 8) (pv_name 5) (by with_unfolding_all rfl))) (fun _ _ _ _ _ => pv_name 8) (sw_true rfl rfl rfl (by decide +kernel))) (xss_one (xs_set 4 sc_joined_by_size.nd (xv_pure (pv_add (pv_name 4) (pv_comp rfl sc_joined_by_size.nd (blkOk_by (own := [("word", 8)]) (by kernel_rfl)) (pvi_seq (pv_name 7)) (tgo_name 8) rfl (fun _ _ _ _ _ => (pg_name (i := 8) sc_joined_by_size.nd rfl (by first | exact .inl rfl | exact .inr rfl))) (fun _ _ _ _ _ => pvts_nil) (fun _ _ _ _ _ => pv_tup (pvs_cons (pv_add (pv_name 5) (pv_lst (pvs_cons (pv_name 8) pvs_nil))) (pvs_cons (pv_call c_told_as_one hgu hr (pvs_cons (pv_name 6) (pvs_cons (pv_name 8) pvs_nil))) pvs_nil)))))))))) (xss_one (xs_set 1 sc_joined_by_size.nd (xv_pure (pv_name 4))))))) (xss_one (xs_ret (xv_pure (pv_callB (call_minD rfl hr.units) con_best (NB _ (by decide)) (pvs_cons (pv_comp rfl sc_joined_by_size.nd (blkOk_by (own := [("used", 5), ("string", 6)]) (by kernel_rfl)) (pvi_seq (pv_name 1)) (tgo_t2 5 6) rfl (fun _ _ _ _ _ => (pg_tup rfl (pgs_cons (pg_name (i := 5) sc_joined_by_size.nd rfl (by first | exact .inl rfl | exact .inr rfl)) (pgs_cons (pg_name (i := 6) sc_joined_by_size.nd rfl (by first | exact .inl rfl | exact .inr rfl)) pgs_nil)))) (fun _ _ _ _ _ => pvts_nil) (fun _ _ _ _ _ => pv_tup (pvs_cons (pv_callB call_len con_len (NB _ (by decide)) (pvs_cons (pv_name 6) pvs_nil)) (pvs_cons (pv_name 6) pvs_nil)))) pvs_nil)))))))) ?_
  rintro ws hf
  have hok := fewWs.ok hf
  simp only [e_are_words, F_joined_by_size] at *
  refine seq_i fun N1 hN1 => ?_
  simp
  subst hN1
  refine seq_i fun N2 hN2 => ?_
  simp [hok]
  subst hN2
  have hal : (alone ws).length ≤ 6 := Nat.le_trans (List.length_filter_le _ _) hf.1
  have haw : ∀ w ∈ alone ws, w.length ≤ 12 := fun w hw => hf.2.1 w (List.mem_filter.mp hw).1
  refine seq_i fun N3 hN3 => ?_
  refine for_rng (alone ws).length (fun k => .int (k : Nat)) [some (.sh (.list (ws.map fun w => .str (S w)))), some (.sh (.list [.tuple [.list [], .str (S [])]])), some (.sh (.list ((alone ws).map fun w => .str (S w)))), none, none, none, none, none, none]
    (fun i ρ => ∃ t l u s lf, ρ = [some (.sh (.list (ws.map fun w => .str (S w)))), some (.sh (.list ((rowsN (alone ws) i).map e_row))), some (.sh (.list ((alone ws).map fun w => .str (S w)))), t, l, u, s, lf, none]) ?_ ?_ ⟨_, _, _, _, _, rfl⟩ ?_ ?_
  · simp
  · simp; omega
  · rintro i ρ' hi ⟨t, l, u, s, lf, rfl⟩
    refine ⟨trivial, by simp, ?_⟩
    refine seq_i fun N4 hN4 => ?_
    simp
    subst hN4
    refine seq_i fun N5 hN5 => ?_
    refine for_i (rowsN (alone ws) i) e_row [some (.sh (.list (ws.map fun w => .str (S w)))), some (.sh (.list ((rowsN (alone ws) i).map e_row))), some (.sh (.list ((alone ws).map fun w => .str (S w)))), some (.sh (.int (i : Int))), some (.sh (.list [])), u, s, lf, none]
      (fun j ρ => ∃ u s lf, ρ = [some (.sh (.list (ws.map fun w => .str (S w)))), some (.sh (.list ((rowsN (alone ws) i).map e_row))), some (.sh (.list ((alone ws).map fun w => .str (S w)))), some (.sh (.int (i : Int))), some (.sh (.list ((((rowsN (alone ws) i).take j).flatMap (stepRow (alone ws))).map e_row))), u, s, lf, none]) ?_ ?_ ⟨_, _, _, rfl⟩ ?_ ?_
    · simp
    · simp
    · rintro j ⟨us, st⟩ ρ' hj ⟨u, s, lf, rfl⟩
      refine ⟨trivial, by simp, ?_⟩
      refine seq_i fun N6 hN6 => ?_
      have hfl : (List.filter (fun x => !decide (x ∈ us)) (alone ws)).length ≤ 6 := Nat.le_trans (List.length_filter_le _ _) hal
      have hmem : (us, st) ∈ rowsN (alone ws) i := List.mem_of_getElem? hj
      obtain ⟨hs1, hs2⟩ := rowsN_size haw i _ hmem
      have hs1' : us.length = i := hs1
      have hs2' : st.length ≤ 12 * i := hs2
      simp [-Prod.exists, -Prod.forall, -List.mem_filter, Function.comp_def, List.filter_map, e_row]
      refine ⟨by omega, ?_⟩
      subst hN6
      simp [-Prod.exists, -Prod.forall, -List.mem_filter, Function.comp_def, List.filter_map]
      refine ⟨⟨⟨by omega, fun a ha => ⟨by omega, by omega, ?_⟩⟩, ?_⟩, ?_⟩
      · have := haw a (List.mem_filter.mp ha).1; omega
      · have h1 := flat_len (stepRow (alone ws)) 6 (fun a => Nat.le_trans (stepRow_len _ a) hal) ((rowsN (alone ws) i).take j)
        have h2 : ((rowsN (alone ws) i).take j).length ≤ 46656 := Nat.le_trans (List.length_take_le' _ _) (rowsN_few hal (by omega))
        rw [List.length_flatMap, List.map_take] at h1
        omega
      · rw [List.take_add_one, hj]
        simp [stepRow, e_row, Function.comp_def]
    · rintro ρ' ⟨u, s, lf, rfl⟩
      subst hN5
      simp
      rfl
  · rintro ρ' ⟨t, l, u, s, lf, rfl⟩
    subst hN3
    have hne : (rowsN (alone ws) (alone ws).length).map (fun r => (r.2.length, r.2)) ≠ [] := by
      have nd : (alone ws).Nodup := hf.2.2.filter _
      intro e
      exact rows_ne _ nd (List.map_eq_nil_iff.mp e)
    have e1 := nBest_map e_pair (fun _ _ => rfl) (fun _ => rfl) (fun _ => by simp [e_pair]) (fun _ => by simp [e_pair]) hne
    have e2 := bestMin_map e_pair ltPair lt_e_pair hne
    rw [List.map_map] at e1 e2
    simp only [Function.comp_def, e_pair] at e1 e2
    simp [-Prod.exists, -Prod.forall, -List.mem_filter, Function.comp_def, List.filter_map, e_row, e1, e2, bestJ, e_pair]
    exact ⟨by have := rowsN_few hal hal; omega, fun r hr => by have := rowsN_size haw _ r hr; omega⟩
def fineWs (ws : List (List Nat)) : Prop := fewWs ws ∧ areWords ws = true
def F_joined_string : List (List Nat) → FOut := fun ws => ⟨.sh (.str (S (bestJ ws).2)), fineWs ws⟩
noncomputable def P_joined_string : List PyData → FOut := liftP e_are_words F_joined_string
@[simp] theorem P_joined_string_eq (ws : List (List Nat)) : P_joined_string [.list (ws.map fun w => .str (S w))] = ⟨.sh (.str (S (bestJ ws).2)), fineWs ws⟩ := liftP_eq (F := F_joined_string) inj_are_words ws
abbrev s_joined_string : Stmt := topS 17
theorem sc_joined_string : FnScope ["words"] ["words"] (defScope s_joined_string) := ⟨rfl, rfl, rfl, by decide +kernel, rfl, by decide +kernel, by decide +kernel⟩
theorem ok_joined_string {f : Addr} {fd : FuncData} {k : Nat} (h : HD K mg "joined_string" ["words"] s_joined_string f fd) {f_joined_by_size : Addr} {fd_joined_by_size : FuncData} (c_joined_by_size : FnP P w K mg base k "joined_by_size" ["words"] f_joined_by_size fd_joined_by_size (spP K P_joined_by_size 1)) {f_check_words : Addr} {fd_check_words : FuncData} (c_check_words : FnP P w K mg base k "check_words" ["words"] f_check_words fd_check_words (spP K P_check_words 1)) : FnP P w K mg base (k + 1) "joined_string" ["words"] f fd (spP K P_joined_string 1) := by
  refine fnT h sc_joined_string (fun cdv A out s H E hgu hr => xss_cons (xs_expr (xv_pure (pv_call c_check_words hgu hr (pvs_cons (pv_name 0) pvs_nil)))) (xss_one (xs_ret (xv_pure (pv_ix (pv_call c_joined_by_size hgu hr (pvs_cons (pv_name 0) pvs_nil)) (pv_int)))))) ?_
  rintro ws ⟨hf, hw⟩
  have hok := fewWs.ok hf
  simp [e_are_words, F_joined_string, hok, hw, hf, e_pair]
def F_joined_length : List (List Nat) → FOut := fun ws => ⟨.sh (.int (bestJ ws).1), fineWs ws⟩
noncomputable def P_joined_length : List PyData → FOut := liftP e_are_words F_joined_length
@[simp] theorem P_joined_length_eq (ws : List (List Nat)) : P_joined_length [.list (ws.map fun w => .str (S w))] = ⟨.sh (.int (bestJ ws).1), fineWs ws⟩ := liftP_eq (F := F_joined_length) inj_are_words ws
abbrev s_joined_length : Stmt := topS 18
theorem sc_joined_length : FnScope ["words"] ["words"] (defScope s_joined_length) := ⟨rfl, rfl, rfl, by decide +kernel, rfl, by decide +kernel, by decide +kernel⟩
theorem ok_joined_length {f : Addr} {fd : FuncData} {k : Nat} (h : HD K mg "joined_length" ["words"] s_joined_length f fd) {f_joined_by_size : Addr} {fd_joined_by_size : FuncData} (c_joined_by_size : FnP P w K mg base k "joined_by_size" ["words"] f_joined_by_size fd_joined_by_size (spP K P_joined_by_size 1)) {f_check_words : Addr} {fd_check_words : FuncData} (c_check_words : FnP P w K mg base k "check_words" ["words"] f_check_words fd_check_words (spP K P_check_words 1)) : FnP P w K mg base (k + 1) "joined_length" ["words"] f fd (spP K P_joined_length 1) := by
  refine fnT h sc_joined_length (fun cdv A out s H E hgu hr => xss_cons (xs_expr (xv_pure (pv_call c_check_words hgu hr (pvs_cons (pv_name 0) pvs_nil)))) (xss_one (xs_ret (xv_pure (pv_ix (pv_call c_joined_by_size hgu hr (pvs_cons (pv_name 0) pvs_nil)) (pv_int)))))) ?_
  rintro ws ⟨hf, hw⟩
  have hok := fewWs.ok hf
  simp [e_are_words, F_joined_length, hok, hw, hf, e_pair]
def e_tri (t : Tri) : PyData := .tuple [.int t.1, .str (S t.2.1), .str (S t.2.2)]
theorem lt_e_tri (a b : Tri) : PySem.W.dataLt (e_tri a) (e_tri b) = ltTri a b := by
  obtain ⟨n, x, y⟩ := a
  obtain ⟨m, u, v⟩ := b
  unfold e_tri ltTri
  rw [lt_tuple_cons _ _ _ _ rfl, lt_tuple_cons _ _ _ _ rfl, lt_tuple_cons _ _ _ _ rfl]
  simp only [eqv_int, eqv_str, TL.lt_int, TL.lt_str, lt_tuple_nil, decide_eq_true_eq]
  by_cases h : n = m
  · subst h
    by_cases e : x = u
    · subst e
      by_cases e2 : y = v
      · subst e2; simp [List.lt_irrefl]
      · simp [e2, List.lt_irrefl]
    · simp [e]
  · simp [h]
theorem sum_bound (n : Nat) : ∀ l : List (List Nat), (∀ w ∈ l, w.length ≤ n) → (l.map List.length).sum ≤ l.length * n
  | [], _ => by simp
  | a :: l, h => by
    have h1 := h a List.mem_cons_self
    have h2 := sum_bound n l fun w hw => h w (List.mem_cons_of_mem _ hw)
    rw [List.map_cons, List.sum_cons, List.length_cons, Nat.succ_mul]
    omega
theorem le_sum : ∀ (l : List (List Nat)) {w : List Nat}, w ∈ l → w.length ≤ (l.map List.length).sum
  | a :: l, w, h => by
    rw [List.map_cons, List.sum_cons]
    rcases List.mem_cons.mp h with rfl | h
    · omega
    · have := le_sum l h; omega
def pairG1 (l : List (List Nat)) (one : List Nat) : List Tri := (l.filter fun o => !decide (o = one)).map fun o => (0 - (ce one o : Int), one, o)
theorem pairsG_eq (l : List (List Nat)) : pairsG l = l.flatMap (pairG1 l) := rfl
theorem pairG1_len (l : List (List Nat)) (a) : (pairG1 l a).length ≤ l.length := by
  unfold pairG1; rw [List.length_map]; exact List.length_filter_le _ _
def F_greedy_string : List (List Nat) → FOut := fun ws => ⟨.sh (.str (S (greedy ws))), fineWs ws⟩
noncomputable def P_greedy_string : List PyData → FOut := liftP e_are_words F_greedy_string
@[simp] theorem P_greedy_string_eq (ws : List (List Nat)) : P_greedy_string [.list (ws.map fun w => .str (S w))] = ⟨.sh (.str (S (greedy ws))), fineWs ws⟩ := liftP_eq (F := F_greedy_string) inj_are_words ws
abbrev s_greedy_string : Stmt := topS 19
theorem sc_greedy_string : FnScope ["words", "left", "pairs", "one", "less", "other", "string"] ["words"] (defScope s_greedy_string) := ⟨rfl, rfl, rfl, by decide +kernel, rfl, by decide +kernel, by decide +kernel⟩
theorem ok_greedy_string {f : Addr} {fd : FuncData} {k : Nat} (h : HD K mg "greedy_string" ["words"] s_greedy_string f fd) {f_told_as_one : Addr} {fd_told_as_one : FuncData} (c_told_as_one : FnP P w K mg base k "told_as_one" ["one", "other"] f_told_as_one fd_told_as_one (spP K P_told_as_one 2)) {f_common_end : Addr} {fd_common_end : FuncData} (c_common_end : FnP P w K mg base k "common_end" ["one", "other"] f_common_end fd_common_end (spP K P_common_end 2)) {f_words_alone : Addr} {fd_words_alone : FuncData} (c_words_alone : FnP P w K mg base k "words_alone" ["words"] f_words_alone fd_words_alone (spP K P_words_alone 1)) {f_check_words : Addr} {fd_check_words : FuncData} (c_check_words : FnP P w K mg base k "check_words" ["words"] f_check_words fd_check_words (spP K P_check_words 1)) (NB : ∀ x : Str, x ∈ blts → mg x = none) : FnP P w K mg base (k + 1) "greedy_string" ["words"] f fd (spP K P_greedy_string 1) := by
  refine fnT h sc_greedy_string (fun cdv A out s H E hgu hr => xss_cons (xs_expr (xv_pure (pv_call c_check_words hgu hr (pvs_cons (pv_name 0) pvs_nil)))) (xss_cons (xs_set 1 sc_greedy_string.nd (xv_pure (pv_call c_words_alone hgu hr (pvs_cons (pv_name 0) pvs_nil)))) (xss_cons (xs_while PassesOwn.never (xt_pure (pvt_cmp (op_gtP hr.units) con_ord (pv_callB call_len con_len (NB _ (by decide)) (pvs_cons (pv_name 1) pvs_nil)) (pv_int) (nomark _))) (xss_cons (xs_set 2 sc_greedy_string.nd (xv_pure (pv_lst pvs_nil))) (xss_cons (xs_for PassesOwn.never rfl (xi_pure (pvi_seq (pv_name 1))) (pg_name (i := 3) sc_greedy_string.nd rfl (by first | exact .inl rfl | exact .inr rfl)) (tgo_name 3) (xss_one (xs_set 2 sc_greedy_string.nd (xv_pure (pv_add (pv_name 2) (pv_comp rfl sc_greedy_string.nd (blkOk_by (own := [("other", 5)]) (by kernel_rfl)) (pvi_seq (pv_name 1)) (tgo_name 5) rfl (fun _ _ _ _ _ => (pg_name (i := 5) sc_greedy_string.nd rfl (by first | exact .inl rfl | exact .inr rfl))) (fun _ _ _ _ _ => pvts_one (pvt_cmp (op_neP hr.units) con_ne (pv_name 5) (pv_name 3) (nomark _))) (fun _ _ _ _ _ => pv_tup (pvs_cons (pv_sub (pv_int) (pv_call c_common_end hgu hr (pvs_cons (pv_name 3) (pvs_cons (pv_name 5) pvs_nil)))) (pvs_cons (pv_name 3) (pvs_cons (pv_name 5) pvs_nil)))))))))) (xss_cons (xs_tgt (xv_pure (pv_callB (call_minD rfl hr.units) con_best (NB _ (by decide)) (pvs_cons (pv_name 2) pvs_nil))) (pg_tup rfl (pgs_cons (pg_name (i := 4) sc_greedy_string.nd rfl (by first | exact .inl rfl | exact .inr rfl)) (pgs_cons (pg_name (i := 3) sc_greedy_string.nd rfl (by first | exact .inl rfl | exact .inr rfl)) (pgs_cons (pg_name (i := 5) sc_greedy_string.nd rfl (by first | exact .inl rfl | exact .inr rfl)) pgs_nil)))) (tgo_t3 4 3 5)) (xss_one (xs_set 1 sc_greedy_string.nd (xv_pure (pv_add (pv_comp rfl sc_greedy_string.nd (blkOk_by (own := [("string", 6)]) (by kernel_rfl)) (pvi_seq (pv_name 1)) (tgo_name 6) rfl (fun _ _ _ _ _ => (pg_name (i := 6) sc_greedy_string.nd rfl (by first | exact .inl rfl | exact .inr rfl))) (fun _ _ _ _ _ => pvts_one (pvt_cmp (op_notInP hr.units) con_notIn (pv_name 6) (pv_tup (pvs_cons (pv_name 3) (pvs_cons (pv_name 5) pvs_nil))) (by with_unfolding_all rfl))) (fun _ _ _ _ _ => pv_name 6)) (pv_lst (pvs_cons (pv_call c_told_as_one hgu hr (pvs_cons (pv_name 3) (pvs_cons (pv_name 5) pvs_nil))) pvs_nil)))))))))) (xss_one (xs_ret (xv_pure (pv_ix (pv_name 1) (pv_int)))))))) ?_
  rintro ws ⟨hf, hw⟩
  have hok := fewWs.ok hf
  simp only [e_are_words, F_greedy_string] at *
  refine seq_i fun N1 hN1 => ?_
  simp [hok, hw]
  subst hN1
  refine seq_i fun N2 hN2 => ?_
  simp [hok]
  subst hN2
  refine seq_i fun N3 hN3 => ?_
  have nd := hf.2.2
  have hal : (alone ws).length ≤ 6 := Nat.le_trans (List.length_filter_le _ _) hf.1
  have haw : ((alone ws).map List.length).sum ≤ 72 := by
    have := sum_bound 12 (alone ws) fun w h => hf.2.1 w (mem_alone.mp h).1
    omega
  have hne : ws ≠ [] := fun e => by rw [e] at hw; cases hw
  have h0 : 0 < (alone ws).length := List.length_pos_iff.mpr (alone_ne hne)
  refine wh_i (fun n ρ => ∃ i l p o le ot, l = greedyN i (alone ws) ∧ i + 1 ≤ (alone ws).length ∧ n = l.length ∧ ρ = [some (.sh (.list (ws.map fun w => .str (S w)))), some (.sh (.list (l.map fun w => .str (S w)))), p, o, le, ot, none]) (alone ws).length
    ⟨0, alone ws, none, none, none, none, rfl, by omega, rfl, rfl⟩ ?_
  rintro n ρ' ⟨i, l, p, o, le, ot, hl, hi, hn, rfl⟩
  obtain ⟨g, hlen, hsum, -⟩ := greedyN_good (good_alone nd) i hi
  rw [← hl] at g hlen hsum
  have hall : ∀ w ∈ l, w.length ≤ 72 := fun w h => Nat.le_trans (le_sum l h) (by omega)
  refine ⟨?_, fun hb => ?_, fun hb => ?_⟩
  · simp
    try omega
  · simp at hb
    have h2 : 2 ≤ l.length := by omega
    refine seq_i fun N4 hN4 => ?_
    simp
    subst hN4
    refine seq_i fun N5 hN5 => ?_
    refine for_i l (fun w => .str (S w)) [some (.sh (.list (ws.map fun w => .str (S w)))), some (.sh (.list (l.map fun w => .str (S w)))), some (.sh (.list [])), o, le, ot, none]
      (fun j ρ => ∃ o, ρ = [some (.sh (.list (ws.map fun w => .str (S w)))), some (.sh (.list (l.map fun w => .str (S w)))), some (.sh (.list (((l.take j).flatMap (pairG1 l)).map e_tri))), o, le, ot, none]) ?_ ?_ ⟨_, rfl⟩ ?_ ?_
    · simp
    · simp
    · rintro j one ρ' hj ⟨o, rfl⟩
      have hone : one ∈ l := List.mem_of_getElem? hj
      refine ⟨trivial, by simp, ?_⟩
      have hfl : (l.filter fun x => !decide (x = one)).length ≤ 6 := Nat.le_trans (List.length_filter_le _ _) (by omega)
      simp [-Prod.exists, -Prod.forall, -List.mem_filter, Function.comp_def, List.filter_map]
      refine ⟨⟨⟨by omega, fun a ha _ => ⟨by have := hall _ hone; omega, by have := hall _ ha; omega⟩⟩, ?_⟩, ?_⟩
      · have h1 := flat_len (pairG1 l) 6 (fun a => Nat.le_trans (pairG1_len _ a) (by omega)) (l.take j)
        have h3 : (l.take j).length ≤ 6 := Nat.le_trans (List.length_take_le' _ _) (by omega)
        rw [List.length_flatMap, List.map_take] at h1
        omega
      · rw [List.take_add_one, hj]
        simp [pairG1, e_tri, Function.comp_def]
    · rintro ρ' ⟨o, rfl⟩
      subst hN5
      dsimp only
      refine seq_i fun N6 hN6 => ?_
      rw [List.take_length, ← pairsG_eq]
      have e1 := nBest_map e_tri (fun _ _ => rfl) (fun _ => rfl) (fun _ => by simp [e_tri]) (fun _ => by simp [e_tri]) (pairs_ne g h2)
      have e2 : bestD PySem.W.minD (.list ((pairsG l).map e_tri)) = .tuple [.int (bestG l).1, .str (S (bestG l).2.1), .str (S (bestG l).2.2)] := bestMin_map e_tri ltTri lt_e_tri (pairs_ne g h2)
      simp [e1, e2]
      subst hN6
      obtain ⟨m1, m2, -, -, -⟩ := bestG_spec g h2
      have hfl : (l.filter fun s => !decide (s ∈ [(bestG l).2.1, (bestG l).2.2])).length ≤ 6 := Nat.le_trans (List.length_filter_le _ _) (by omega)
      have hs := step_len g h2
      have hfe : (l.filter fun x => !decide ((bestG l).2.1 = x) && !decide ((bestG l).2.2 = x)) = l.filter fun s => !decide (s ∈ [(bestG l).2.1, (bestG l).2.2]) := by
        apply List.filter_congr
        intro x _
        simp [eq_comm]
      simp [-Prod.exists, -Prod.forall, -List.mem_filter, Function.comp_def, List.filter_map]
      rw [hfe]
      refine ⟨⟨by omega, ⟨by have := hall _ m1; omega, by have := hall _ m2; omega⟩, by omega⟩, (stepG l).length, by omega, i + 1, by omega, ?_, ?_⟩
      · rw [greedyN_succ, ← hl]
      · rw [greedyN_succ, ← hl]
        unfold stepG
        rw [List.map_append]
        rfl
  · simp at hb
    subst hN3
    have h1 : l.length = 1 := by omega
    have h3 : i = (alone ws).length - 1 := by omega
    have h4 : l = [greedy ws] := by rw [hl, h3]; exact greedy_one nd hne
    subst h4
    simp
end
end K65
set_option linter.all false
set_option maxRecDepth 100000
set_option maxHeartbeats 2000000
set_option autoImplicit false
namespace K65
open PySem PySem.Spec PyProof.Rows L2 TL
section
variable {P : Program} {w : World} {K : PySem.W.Frag} {mg : Str → Option Value} {base : Heap}
/-! ## the law's helpers -/
abbrev Gen := Int × Int × Int
def gO (g : Gen) : O := .lst [.int g.1, .int g.2.1, .int g.2.2]
def GOk (g : Gen) (k : Nat) : Prop := 0 ≤ g.1 ∧ 0 ≤ g.2.1 ∧ g.2.1 < 2147483648 ∧ 0 ≤ g.2.2 ∧ g.2.2 + k ≤ 2 ^ 60
theorem GOk.le {g : Gen} {k j : Nat} (h : GOk g k) (l : j ≤ k) : GOk g j := ⟨h.1, h.2.1, h.2.2.1, h.2.2.2.1, by have := h.2.2.2.2; omega⟩
theorem gO_inj {g g' : Gen} (h : gO g = gO g') : g = g' := by
  obtain ⟨a, b, c⟩ := g
  obtain ⟨d, e, f⟩ := g'
  simpa [gO] using h
def lcell (ns : List Int) (i : Nat) : Int := if i < ns.length then ns.getD i 0 else (ns.take 1).sum % 1000003
def e__law_cell : List Int × Nat → List PyData := fun x => [.list (x.1.map .int), .int x.2]
def F__law_cell : List Int × Nat → FOut := fun x => ⟨.sh (.int (lcell x.1 x.2)), x.1.length ≤ 1000 ∧ x.2 ≤ 1000⟩
noncomputable def P__law_cell : List PyData → FOut := liftP e__law_cell F__law_cell
theorem inj__law_cell : ∀ x y, e__law_cell x = e__law_cell y → x = y := by
  rintro ⟨a, b⟩ ⟨c, d⟩ h
  simp only [e__law_cell, List.cons.injEq, PyData.list.injEq, PyData.int.injEq, map_int_inj, and_true] at h
  exact Prod.ext h.1 (by have := h.2; omega)
theorem P__law_cell_eq (ns : List Int) (i : Nat) : P__law_cell [.list (ns.map .int), .int i] = ⟨.sh (.int (lcell ns i)), ns.length ≤ 1000 ∧ i ≤ 1000⟩ := liftP_eq (F := F__law_cell) inj__law_cell (ns, i)
abbrev s__law_cell : Stmt := topS 21
theorem sc__law_cell : FnScope ["script", "index"] ["script", "index"] (defScope s__law_cell) := ⟨rfl, rfl, rfl, by decide +kernel, rfl, by decide +kernel, by decide +kernel⟩
theorem ok__law_cell {f : Addr} {fd : FuncData} {k : Nat} (h : HD K mg "_law_cell" ["script", "index"] s__law_cell f fd) (NB : ∀ x : Str, x ∈ blts → mg x = none) : FnP P w K mg base (k + 1) "_law_cell" ["script", "index"] f fd (spP K P__law_cell 2) := by
  refine fnT h sc__law_cell (fun cdv A out s H E hgu hr => xss_cons (xs_if (xt_pure (pvt_cmp (op_ltP hr.units) con_ord (pv_name 1) (pv_callB call_len con_len (NB _ (by decide)) (pvs_cons (pv_name 0) pvs_nil)) (nomark _))) (xss_one (xs_ret (xv_pure (pv_ix (pv_name 0) (pv_name 1))))) xss_nil) (xss_one (xs_ret (xv_pure (pv_mod (pv_callB (cr_sum rfl) con_sum (NB _ (by decide)) (pvs_cons (pv_slice (pv_name 0) po_n (po_s (pv_int))) pvs_nil)) (pv_int)))))) ?_
  rintro ⟨ns, i⟩ ⟨h1, h2⟩
  simp only [e__law_cell, F__law_cell] at *
  refine seq_i fun N1 hN1 => if_i ?_ (fun hq => ?_) (fun hq => ?_)
  · simp
    try omega
  · simp at hq ⊢
    have hq' : i < ns.length := by omega
    simp [hq', lcell]
  · subst hN1
    simp at hq ⊢
    have hq' : ¬ i < ns.length := by omega
    have e1 : cutG ns none (some 1) = ns.take 1 := cutG_toN ns 1
    simp [hq', lcell, e1, Function.comp_def]
    try omega
def hash1 (s i : Int) : Int := (s * 1140671 + 27644437 * i * i + 131 * i + 19) % 2147483629
def hash2 (s i : Int) : Int := (hash1 s i * hash1 s i + 62089 * i + 32416187) % 2147483587
def hashL (s i : Int) : Int := (hash2 s i * 48271) % 2147483647
def e__law_hash : Int × Int → List PyData := fun x => [.int x.1, .int x.2]
def F__law_hash : Int × Int → FOut := fun x => ⟨.sh (.int (hashL x.1 x.2)), 0 ≤ x.1 ∧ x.1 < 2147483648 ∧ 0 ≤ x.2 ∧ x.2 ≤ 2 ^ 60⟩
noncomputable def P__law_hash : List PyData → FOut := liftP e__law_hash F__law_hash
theorem inj__law_hash : ∀ x y, e__law_hash x = e__law_hash y → x = y := by
  rintro ⟨a, b⟩ ⟨c, d⟩ h
  simpa [e__law_hash] using h
@[simp] theorem P__law_hash_eq (s i : Int) : P__law_hash [.int s, .int i] = ⟨.sh (.int (hashL s i)), 0 ≤ s ∧ s < 2147483648 ∧ 0 ≤ i ∧ i ≤ 2 ^ 60⟩ := liftP_eq (F := F__law_hash) inj__law_hash (s, i)
abbrev s__law_hash : Stmt := topS 22
theorem sc__law_hash : FnScope ["seed", "index", "mixed"] ["seed", "index"] (defScope s__law_hash) := ⟨rfl, rfl, rfl, by decide +kernel, rfl, by decide +kernel, by decide +kernel⟩
theorem ok__law_hash {f : Addr} {fd : FuncData} {k : Nat} (h : HD K mg "_law_hash" ["seed", "index"] s__law_hash f fd) (NB : ∀ x : Str, x ∈ blts → mg x = none) : FnP P w K mg base (k + 1) "_law_hash" ["seed", "index"] f fd (spP K P__law_hash 2) := by
  refine fnT h sc__law_hash (fun cdv A out s H E hgu hr => xss_cons (xs_set 2 sc__law_hash.nd (xv_pure (pv_mod (pv_callT call_int1 con_int (NB _ (by decide)) (pvs_cons (pv_add (pv_add (pv_add (pv_mul (pv_name 0) (pv_int)) (pv_mul (pv_mul (pv_int) (pv_name 1)) (pv_name 1))) (pv_mul (pv_int) (pv_name 1))) (pv_int)) pvs_nil)) (pv_int)))) (xss_cons (xs_set 2 sc__law_hash.nd (xv_pure (pv_mod (pv_callT call_int1 con_int (NB _ (by decide)) (pvs_cons (pv_add (pv_add (pv_mul (pv_name 2) (pv_name 2)) (pv_mul (pv_int) (pv_name 1))) (pv_int)) pvs_nil)) (pv_int)))) (xss_one (xs_ret (xv_pure (pv_mod (pv_callT call_int1 con_int (NB _ (by decide)) (pvs_cons (pv_mul (pv_name 2) (pv_int)) pvs_nil)) (pv_int))))))) ?_
  rintro ⟨s, i⟩ ⟨h1, h2, h3, h4⟩
  simp only [e__law_hash, F__law_hash] at *
  have b1 : 0 ≤ hash1 s i ∧ hash1 s i < 2147483629 := ⟨Int.emod_nonneg _ (by decide), Int.emod_lt_of_pos _ (by decide)⟩
  have b2 : 0 ≤ hash2 s i ∧ hash2 s i < 2147483587 := ⟨Int.emod_nonneg _ (by decide), Int.emod_lt_of_pos _ (by decide)⟩
  refine seq_i fun N1 hN1 => ?_
  simp
  refine ⟨⟨⟨by unfold CMul; omega, by unfold CMul; omega, by unfold CMul; omega⟩, by unfold CMul; omega⟩, ?_⟩
  subst hN1
  refine seq_i fun N2 hN2 => ?_
  rw [← hash1]
  simp
  refine ⟨⟨by unfold CMul; omega, by unfold CMul; omega⟩, ?_⟩
  subst hN2
  rw [← hash2]
  simp
  exact ⟨by unfold CMul; omega, rfl⟩
def rnd (g : Gen) (b : Int) : Int × Gen := if 0 < g.1 then (g.1 % b, (g.1 / b, g.2.1, g.2.2)) else (hashL g.2.1 (g.2.2 + 1) % b, (g.1, g.2.1, g.2.2 + 1))
def e__law_random : Gen × Int → O × List PyData := fun x => (gO x.1, [.int x.2])
def F__law_random : Gen × Int → BOut := fun x => ⟨.sh (.int (rnd x.1 x.2).1), gO (rnd x.1 x.2).2, GOk x.1 10 ∧ 0 < x.2 ∧ x.2 < 1000000⟩
noncomputable def B__law_random : O → List PyData → BOut := liftB e__law_random F__law_random
theorem inj__law_random : ∀ x y, e__law_random x = e__law_random y → x = y := by
  rintro ⟨a, b⟩ ⟨c, d⟩ h
  simp only [e__law_random, Prod.mk.injEq, List.cons.injEq, PyData.int.injEq, and_true] at h
  exact Prod.ext (gO_inj h.1) h.2
@[simp] theorem B__law_random_eq (g : Gen) (b : Int) : B__law_random (.lst [.int g.1, .int g.2.1, .int g.2.2]) [.int b] = ⟨.sh (.int (rnd g b).1), gO (rnd g b).2, GOk g 10 ∧ 0 < b ∧ b < 1000000⟩ := liftB_eq (F := F__law_random) inj__law_random (g, b)
theorem bits_small {b : Int} (h0 : 0 < b) (h : b < 1000000) : Builtin.Int.intBits b ≤ 21 := by
  have h2 : b.natAbs.log2 < 21 := PySem.Flt.log2_lt_of (by decide) (by omega)
  unfold Builtin.Int.intBits
  split <;> omega
abbrev s__law_random : Stmt := topS 23
theorem sc__law_random : FnScope ["generator", "bound", "drawn", "turn"] ["generator", "bound"] (defScope s__law_random) := ⟨rfl, rfl, rfl, by decide +kernel, rfl, by decide +kernel, by decide +kernel⟩
theorem ok__law_random {f : Addr} {fd : FuncData} {k : Nat} (h : HD K mg "_law_random" ["generator", "bound"] s__law_random f fd) {f__law_hash : Addr} {fd__law_hash : FuncData} (c__law_hash : FnP P w K mg base k "_law_hash" ["seed", "index"] f__law_hash fd__law_hash (spP K P__law_hash 2)) (NB : ∀ x : Str, x ∈ blts → mg x = none) : FnP P w K mg base (k + 1) "_law_random" ["generator", "bound"] f fd (spB K B__law_random 2) := by
  refine fnBT h sc__law_random (fun cdv A out s H E hgu hr => xss_cons (xs_if (xt_pure (pvt_cmp (op_gtP hr.units) con_ord (pv_ix (pv_name 0) (pv_int)) (pv_int) (nomark _))) (xss_cons (xs_set 2 sc__law_random.nd (xv_pure (pv_mod (pv_callT call_int1 con_int (NB _ (by decide)) (pvs_cons (pv_ix (pv_name 0) (pv_int)) pvs_nil)) (pv_name 1)))) (xss_cons (xs_sub 0 (xv_pure (pv_fdiv (pv_ix (pv_name 0) (pv_int)) (pv_name 1))) (pv_int)) (xss_one (xs_ret (xv_pure (pv_name 2)))))) xss_nil) (xss_cons (xs_set 2 sc__law_random.nd (xv_pure (pv_int))) (xss_cons (xs_for PassesOwn.never rfl (xi_pure (pvi_range1 (NB _ (by decide)) (pv_add (pv_int) (pv_fdiv (pv_bits (pv_name 1)) (pv_int))))) (pg_name (i := 3) sc__law_random.nd rfl (by first | exact .inl rfl | exact .inr rfl)) (tgo_name 3) (xss_cons (xs_sub 0 (xv_pure (pv_add (pv_ix (pv_name 0) (pv_int)) (pv_int))) (pv_int)) (xss_one (xs_set 2 sc__law_random.nd (xv_pure (pv_add (pv_mul (pv_name 2) (pv_int)) (pv_call c__law_hash hgu hr (pvs_cons (pv_ix (pv_name 0) (pv_int)) (pvs_cons (pv_ix (pv_name 0) (pv_int)) pvs_nil))))))))) (xss_one (xs_ret (xv_pure (pv_mod (pv_callT call_int1 con_int (NB _ (by decide)) (pvs_cons (pv_name 2) pvs_nil)) (pv_name 1)))))))) ?_
  rintro ⟨⟨g0, g1, g2⟩, b⟩ ⟨⟨h1, h2, h3, h4, h5⟩, hb0, hb⟩
  simp only at h1 h2 h3 h4 h5 hb0 hb
  simp only [e__law_random, F__law_random, gO] at *
  refine seq_i fun N1 hN1 => if_i ?_ (fun hq => ?_) (fun hq => ?_)
  · simp
  · simp at hq
    refine seq_i fun N2 hN2 => ?_
    simp [hb0]
    subst hN2
    refine seq_i fun N3 hN3 => ?_
    simp
    refine ⟨by unfold CDiv; omega, ?_⟩
    subst hN3
    simp [rnd, hq]
  · simp at hq
    subst hN1
    dsimp only
    have hbits : (1 + (Builtin.Int.intBits b : Int) / 30).toNat = 1 := by have := bits_small hb0 hb; omega
    refine seq_i fun N2 hN2 => ?_
    simp
    subst hN2
    refine seq_i fun N3 hN3 => ?_
    refine for_rng 1 (fun k => .int (k : Nat)) [some (gO (g0, g1, g2)), some (.sh (.int b)), some (.sh (.int 0)), none]
      (fun i ρ => (i = 0 ∧ ρ = [some (gO (g0, g1, g2)), some (.sh (.int b)), some (.sh (.int 0)), none]) ∨ (i = 1 ∧ ρ = [some (gO (g0, g1, g2 + 1)), some (.sh (.int b)), some (.sh (.int (hashL g1 (g2 + 1)))), some (.sh (.int 0))])) ?_ ?_ (.inl ⟨rfl, rfl⟩) ?_ ?_
    · simp [hbits, gO]
    · simp
      have := bits_small hb0 hb
      refine ⟨by unfold CDiv; omega, ?_⟩
      unfold small62; omega
    · rintro i ρ' hi hI
      have hi0 : i = 0 := by omega
      subst hi0
      rcases hI with ⟨_, rfl⟩ | ⟨z, _⟩
      · refine ⟨trivial, by simp, ?_⟩
        refine seq_i fun N4 hN4 => ?_
        simp [gO]
        subst hN4
        simp
        exact ⟨⟨by unfold CMul; omega, h2, h3, by omega, by omega⟩, rfl⟩
      · cases z
    · rintro ρ' (⟨z, _⟩ | ⟨_, rfl⟩)
      · cases z
      · subst hN3
        have hq' : ¬ 0 < g0 := by omega
        simp [gO, rnd, hq', hb0]
theorem rnd_range {g : Gen} {b : Int} (h : 0 < b) : 0 ≤ (rnd g b).1 ∧ (rnd g b).1 < b := by
  unfold rnd
  split <;> exact ⟨Int.emod_nonneg _ (by omega), Int.emod_lt_of_pos _ h⟩
theorem rnd_ok {g : Gen} {b : Int} {k : Nat} (h : 0 < b) (hg : GOk g (k + 1)) : GOk (rnd g b).2 k := by
  obtain ⟨h1, h2, h3, h4, h5⟩ := hg
  unfold rnd
  split
  · refine ⟨Int.ediv_nonneg h1 (by omega), h2, h3, h4, ?_⟩
    show g.2.2 + (k : Int) ≤ 2 ^ 60; omega
  · refine ⟨h1, h2, h3, ?_, ?_⟩
    · show 0 ≤ g.2.2 + 1; omega
    · show g.2.2 + 1 + (k : Int) ≤ 2 ^ 60; omega
def genL (ns : List Int) (i : Nat) : Gen := ((if 0 > lcell ns i - 10 ^ 18 then 0 else lcell ns i - 10 ^ 18) % (10 ^ 60) ^ 10, lcell ns i % 2147483647, 1000 * (i : Int))
def F__law_generator : List Int × Nat → FOut := fun x => ⟨gO (genL x.1 x.2), x.1.length ≤ 1000 ∧ x.2 ≤ 1000⟩
noncomputable def P__law_generator : List PyData → FOut := liftP e__law_cell F__law_generator
theorem P__law_generator_eq (ns : List Int) (i : Nat) : P__law_generator [.list (ns.map .int), .int i] = ⟨gO (genL ns i), ns.length ≤ 1000 ∧ i ≤ 1000⟩ := liftP_eq (F := F__law_generator) inj__law_cell (ns, i)
theorem genL_ok (ns : List Int) {i : Nat} (h : i ≤ 1000) : GOk (genL ns i) (2 ^ 59) := by
  unfold genL GOk
  refine ⟨Int.emod_nonneg _ (by decide), Int.emod_nonneg _ (by decide), ?_, by show (0 : Int) ≤ 1000 * (i : Int); omega, ?_⟩
  · have := Int.emod_lt_of_pos (lcell ns i) (b := 2147483647) (by decide)
    show lcell ns i % 2147483647 < 2147483648
    omega
  · show 1000 * (i : Int) + ((2 ^ 59 : Nat) : Int) ≤ 2 ^ 60
    omega
abbrev s__law_generator : Stmt := topS 24
theorem sc__law_generator : FnScope ["script", "index", "seed"] ["script", "index"] (defScope s__law_generator) := ⟨rfl, rfl, rfl, by decide +kernel, rfl, by decide +kernel, by decide +kernel⟩
theorem ok__law_generator {f : Addr} {fd : FuncData} {k : Nat} (h : HD K mg "_law_generator" ["script", "index"] s__law_generator f fd) {f__law_cell : Addr} {fd__law_cell : FuncData} (c__law_cell : FnP P w K mg base k "_law_cell" ["script", "index"] f__law_cell fd__law_cell (spP K P__law_cell 2)) (NB : ∀ x : Str, x ∈ blts → mg x = none) : FnP P w K mg base (k + 1) "_law_generator" ["script", "index"] f fd (spP K P__law_generator 2) := by
  refine fnT h sc__law_generator (fun cdv A out s H E hgu hr => xss_cons (xs_set 2 sc__law_generator.nd (xv_pure (pv_call c__law_cell hgu hr (pvs_cons (pv_name 0) (pvs_cons (pv_name 1) pvs_nil))))) (xss_one (xs_ret (xv_pure (pv_lst (pvs_cons (pv_mod (pv_callT call_int1 con_int (NB _ (by decide)) (pvs_cons (pv_callB (call_max2 rfl) con_max2 (NB _ (by decide)) (pvs_cons (pv_sub (pv_name 2) (pv_pow (pv_int) (pv_int))) (pvs_cons (pv_int) pvs_nil))) pvs_nil)) (pv_powW (pv_pow (pv_int) (pv_int)) (pv_int))) (pvs_cons (pv_mod (pv_callT call_int1 con_int (NB _ (by decide)) (pvs_cons (pv_name 2) pvs_nil)) (pv_int)) (pvs_cons (pv_mul (pv_int) (pv_name 1)) pvs_nil)))))))) ?_
  rintro ⟨ns, i⟩ ⟨h1, h2⟩
  simp only at h1 h2
  simp only [e__law_cell, F__law_generator] at *
  refine seq_i fun N1 hN1 => ?_
  simp [P__law_cell_eq, h1, h2]
  subst hN1
  simp [genL, gO]
  exact ⟨⟨⟨by decide, by decide, by decide⟩, ⟨by decide, by decide, by decide⟩, ⟨by decide, by decide, by decide +kernel⟩⟩, by unfold CMul; omega⟩
def e__law_pick : Gen × List PyData → O × List PyData := fun x => (gO x.1, [.list x.2])
def F__law_pick : Gen × List PyData → BOut := fun x => ⟨.sh (x.2.getD (rnd x.1 x.2.length).1.toNat .none), gO (rnd x.1 x.2.length).2, GOk x.1 10 ∧ 0 < x.2.length ∧ x.2.length < 100000⟩
noncomputable def B__law_pick : O → List PyData → BOut := liftB e__law_pick F__law_pick
theorem inj__law_pick : ∀ x y, e__law_pick x = e__law_pick y → x = y := by
  rintro ⟨a, b⟩ ⟨c, d⟩ h
  simp only [e__law_pick, Prod.mk.injEq, List.cons.injEq, PyData.list.injEq, and_true] at h
  exact Prod.ext (gO_inj h.1) h.2
@[simp] theorem B__law_pick_eq (g : Gen) (ds : List PyData) : B__law_pick (.lst [.int g.1, .int g.2.1, .int g.2.2]) [.list ds] = ⟨.sh (ds.getD (rnd g ds.length).1.toNat .none), gO (rnd g ds.length).2, GOk g 10 ∧ 0 < ds.length ∧ ds.length < 100000⟩ := liftB_eq (F := F__law_pick) inj__law_pick (g, ds)
abbrev s__law_pick : Stmt := topS 25
theorem sc__law_pick : FnScope ["generator", "some"] ["generator", "some"] (defScope s__law_pick) := ⟨rfl, rfl, rfl, by decide +kernel, rfl, by decide +kernel, by decide +kernel⟩
theorem ok__law_pick {f : Addr} {fd : FuncData} {k : Nat} (h : HD K mg "_law_pick" ["generator", "some"] s__law_pick f fd) {f__law_random : Addr} {fd__law_random : FuncData} (c__law_random : FnP P w K mg base k "_law_random" ["generator", "bound"] f__law_random fd__law_random (spB K B__law_random 2)) (NB : ∀ x : Str, x ∈ blts → mg x = none) : FnP P w K mg base (k + 1) "_law_pick" ["generator", "some"] f fd (spB K B__law_pick 2) := by
  refine fnBT h sc__law_pick (fun cdv A out s H E hgu hr => xss_one (xs_ret (xv_ix (xv_pure (pv_name 1)) (xv_callO 0 c__law_random hgu hr (xa_one (xv_pure (pv_callB call_len con_len (NB _ (by decide)) (pvs_cons (pv_name 1) pvs_nil)))))))) ?_
  rintro ⟨g, ds⟩ ⟨hg, h0, hl⟩
  simp only at hg h0 hl
  have hr := rnd_range (g := g) (b := (ds.length : Int)) (by omega)
  have e1 : atI ds (rnd g ds.length).1 = some (ds.getD (rnd g ds.length).1.toNat .none) := by
    rw [atI_at ds _ (rnd g ds.length).1.toNat (by omega), List.getD_eq_getElem?_getD, List.getElem?_eq_getElem (by omega)]; rfl
  simp [e__law_pick, F__law_pick, gO, hg, e1]
  omega
def pk (signs : List Nat) (g : Gen) : Nat × Gen := (signs.getD (rnd g signs.length).1.toNat 0, (rnd g signs.length).2)
def pks (signs : List Nat) : Nat → Gen → List Nat × Gen
  | 0, g => ([], g)
  | n + 1, g => ((pk signs g).1 :: (pks signs n (pk signs g).2).1, (pks signs n (pk signs g).2).2)
theorem pks_len (signs : List Nat) : ∀ n g, (pks signs n g).1.length = n
  | 0, _ => rfl
  | n + 1, g => by rw [pks, List.length_cons, pks_len signs n]
theorem pk_mem {signs : List Nat} (h : signs ≠ []) (g : Gen) : (pk signs g).1 ∈ signs := by
  have hl : 0 < signs.length := List.length_pos_iff.mpr h
  have hr := rnd_range (g := g) (b := (signs.length : Int)) (by omega)
  unfold pk
  rw [List.getD_eq_getElem?_getD, List.getElem?_eq_getElem (by omega)]
  exact List.getElem_mem _
theorem pks_mem {signs : List Nat} (h : signs ≠ []) : ∀ n g, ∀ c ∈ (pks signs n g).1, c ∈ signs
  | n + 1, g, c, hc => by
    rw [pks] at hc
    rcases List.mem_cons.mp hc with rfl | hc
    · exact pk_mem h g
    · exact pks_mem h n _ c hc
theorem pk_ok {signs : List Nat} (h : signs ≠ []) {g : Gen} {k : Nat} (hg : GOk g (k + 1)) : GOk (pk signs g).2 k :=
  rnd_ok (by have : 0 < signs.length := List.length_pos_iff.mpr h; omega) hg
theorem pks_ok {signs : List Nat} (h : signs ≠ []) : ∀ n g k, GOk g (k + n) → GOk (pks signs n g).2 k
  | 0, g, k, hg => hg
  | n + 1, g, k, hg => pks_ok h n _ k (pk_ok h (k := k + n) hg)
def lword (g : Gen) (signs : List Nat) (least most : Nat) : List Nat × Gen :=
  pks signs (least + (rnd g ((most : Int) - least + 1)).1.toNat) (rnd g ((most : Int) - least + 1)).2
def WA (signs : List Nat) (least most : Nat) : Prop := signs ≠ [] ∧ signs.length ≤ 1000 ∧ least ≤ most ∧ most ≤ 1000
def e__law_word : Gen × List Nat × Nat × Nat → O × List PyData := fun x => (gO x.1, [.str (S x.2.1), .int x.2.2.1, .int x.2.2.2])
def F__law_word : Gen × List Nat × Nat × Nat → BOut := fun x => ⟨.sh (.str (S (lword x.1 x.2.1 x.2.2.1 x.2.2.2).1)), gO (lword x.1 x.2.1 x.2.2.1 x.2.2.2).2, GOk x.1 2000 ∧ WA x.2.1 x.2.2.1 x.2.2.2⟩
noncomputable def B__law_word : O → List PyData → BOut := liftB e__law_word F__law_word
theorem inj__law_word : ∀ x y, e__law_word x = e__law_word y → x = y := by
  rintro ⟨a, b, c, d⟩ ⟨a', b', c', d'⟩ h
  simp only [e__law_word, Prod.mk.injEq, List.cons.injEq, PyData.str.injEq, PyData.int.injEq, S_inj, and_true] at h
  obtain ⟨h1, h2, h3, h4⟩ := h
  have := gO_inj h1
  simp [this, h2]
  omega
@[simp] theorem B__law_word_eq (g : Gen) (signs : List Nat) (least most : Nat) : B__law_word (.lst [.int g.1, .int g.2.1, .int g.2.2]) [.str (S signs), .int least, .int most] = ⟨.sh (.str (S (lword g signs least most).1)), gO (lword g signs least most).2, GOk g 2000 ∧ WA signs least most⟩ := liftB_eq (F := F__law_word) inj__law_word (g, signs, least, most)
theorem lword_len (g : Gen) (signs : List Nat) {least most : Nat} (h : least ≤ most) : least ≤ (lword g signs least most).1.length ∧ (lword g signs least most).1.length ≤ most := by
  have hr := rnd_range (g := g) (b := (most : Int) - least + 1) (by omega)
  unfold lword
  rw [pks_len]
  omega
theorem lword_mem {signs : List Nat} (h : signs ≠ []) (g : Gen) (least most : Nat) : ∀ c ∈ (lword g signs least most).1, c ∈ signs := pks_mem h _ _
theorem lword_ok {signs : List Nat} (h : signs ≠ []) {g : Gen} {k least most : Nat} (hl : least ≤ most) (hg : GOk g (k + 1 + most)) : GOk (lword g signs least most).2 k := by
  have hr := rnd_range (g := g) (b := (most : Int) - least + 1) (by omega)
  unfold lword
  refine pks_ok h _ _ _ ?_
  refine GOk.le (k := k + most) (rnd_ok (by omega) (hg.le (by omega))) (by omega)
theorem runS_pks (signs : List Nat) : ∀ n g, runS (fun g => (PyData.str (S [(pk signs g).1]), (pk signs g).2)) n g = ((pks signs n g).1.map fun c => PyData.str (S [c]), (pks signs n g).2)
  | 0, _ => rfl
  | n + 1, g => by
    rw [runS, runS_pks signs n]
    rfl
abbrev s__law_word : Stmt := topS 26
theorem sc__law_word : FnScope ["generator", "signs", "least", "most", "turn"] ["generator", "signs", "least", "most"] (defScope s__law_word) := ⟨rfl, rfl, rfl, by decide +kernel, rfl, by decide +kernel, by decide +kernel⟩
theorem ok__law_word {f : Addr} {fd : FuncData} {k : Nat} (h : HD K mg "_law_word" ["generator", "signs", "least", "most"] s__law_word f fd) {f__law_random : Addr} {fd__law_random : FuncData} (c__law_random : FnP P w K mg base k "_law_random" ["generator", "bound"] f__law_random fd__law_random (spB K B__law_random 2)) {f__law_pick : Addr} {fd__law_pick : FuncData} (c__law_pick : FnP P w K mg base k "_law_pick" ["generator", "some"] f__law_pick fd__law_pick (spB K B__law_pick 2)) (NB : ∀ x : Str, x ∈ blts → mg x = none) : FnP P w K mg base (k + 1) "_law_word" ["generator", "signs", "least", "most"] f fd (spB K B__law_word 4) := by
  refine fnBT h sc__law_word (fun cdv A out s H E hgu hr => xss_one (xs_ret (xv_join (xv_comp rfl sc__law_word.nd (blkOk_by (own := [("turn", 4)]) (by kernel_rfl)) (xi_range1 (NB _ (by decide)) (xv_add (xv_pure (pv_name 2)) (xv_callO 0 c__law_random hgu hr (xa_one (xv_pure (pv_add (pv_sub (pv_name 3) (pv_name 2)) (pv_int))))))) (tgo_name 4) rfl (fun _ _ _ _ _ => (pg_name (i := 4) sc__law_word.nd rfl (by first | exact .inl rfl | exact .inr rfl))) (fun _ _ _ _ _ => xv_callO 0 c__law_pick hgu hr (xa_one (xv_pure (pv_callT (call_list_of.or (call_listStr rfl)) con_list (NB _ (by decide)) (pvs_cons (pv_name 1) pvs_nil))))))))) ?_
  rintro ⟨g, signs, least, most⟩ ⟨hg, hs, hsl, hlm, hm⟩
  simp only at hg hs hsl hlm hm
  simp only [e__law_word, F__law_word] at *
  have hr := rnd_range (g := g) (b := (most : Int) - least + 1) (by omega)
  have hp : 0 < signs.length := List.length_pos_iff.mpr hs
  refine ret_r (runs_B (runs_pure trivial) trivial (runs_comp (fun g : Gen => [some (gO g), some (.sh (.str (S signs))), some (.sh (.int least)), some (.sh (.int most)), none]) (fun g => (PyData.str (S [(pk signs g).1]), (pk signs g).2)) (fun g n => GOk g (10 + n)) (rnd g ((most : Int) - least + 1)).2 ((List.range (least + (rnd g ((most : Int) - least + 1)).1.toNat)).map fun i => .int (i : Nat)) (least + (rnd g ((most : Int) - least + 1)).1.toNat) ?_ ?_ ?_ ?_ ?_ ?_ ?_ ?_) trivial ?_) ?_
  · have e3 : ((least : Int) + (rnd g ((most : Int) - least + 1)).1).toNat = least + (rnd g ((most : Int) - least + 1)).1.toNat := by omega
    simp [gO, e3]
  · simp [gO]
  · simp [gO, hg.le (show 10 ≤ 2000 by decide)]
    unfold small62
    omega
  · simp
  · show _ < 16777216
    omega
  · simp
  · exact (rnd_ok (k := 1999) (by omega) hg).le (by omega)
  · intro s n d hk
    have hk10 : GOk s 10 := hk.le (by omega)
    have hq := rnd_range (g := s) (b := (signs.length : Int)) (by omega)
    refine ⟨.o (.sh (.str (S [(pk signs s).1]))), [some (gO (pk signs s).2), some (.sh (.str (S signs))), some (.sh (.int least)), some (.sh (.int most)), some (.sh d)], trivial, by simp, ⟨?_, ?_, ?_⟩, trivial, rfl, ?_, ?_⟩
    · simp [gO, hk10, hp]
      omega
    · simp [gO, pk]
      rw [List.getElem?_eq_getElem (by omega)]
      rfl
    · simp [gO, pk]
    · simp
    · exact pk_ok hs (k := 10 + n) hk
  · rw [runS_pks]
    simp [Function.comp_def, pks_len]
    omega
  · rw [runS_pks]
    simp [Function.comp_def, TL.join_ones, lword]
def lwordsN (signs : List Nat) (least most : Nat) : Nat → Gen → List (List Nat) × Gen
  | 0, g => ([], g)
  | n + 1, g => ((lword g signs least most).1 :: (lwordsN signs least most n (lword g signs least most).2).1, (lwordsN signs least most n (lword g signs least most).2).2)
theorem lwordsN_len (signs : List Nat) (least most : Nat) : ∀ n g, (lwordsN signs least most n g).1.length = n
  | 0, _ => rfl
  | n + 1, g => by rw [lwordsN, List.length_cons, lwordsN_len signs least most n]
theorem lwordsN_mem {signs : List Nat} {least most : Nat} (h : WA signs least most) : ∀ n g, ∀ w ∈ (lwordsN signs least most n g).1, least ≤ w.length ∧ w.length ≤ most ∧ ∀ c ∈ w, c ∈ signs
  | n + 1, g, w, hw => by
    rw [lwordsN] at hw
    rcases List.mem_cons.mp hw with rfl | hw
    · have := lword_len g signs h.2.2.1
      exact ⟨this.1, this.2, lword_mem h.1 g least most⟩
    · exact lwordsN_mem h n _ w hw
theorem lwordsN_ok {signs : List Nat} {least most : Nat} (h : WA signs least most) : ∀ n g k, GOk g (k + 1001 * n) → GOk (lwordsN signs least most n g).2 k
  | 0, g, k, hg => hg
  | n + 1, g, k, hg => by
    have hm := h.2.2.2
    exact lwordsN_ok h n _ k (lword_ok h.1 h.2.2.1 (hg.le (by omega)))
def lwords (g : Gen) (signs : List Nat) (many least most : Nat) : List (List Nat) × Gen :=
  (((srtS ((lwordsN signs least most (1 + (rnd g many).1.toNat) (rnd g many).2).1.map S)).map L), (lwordsN signs least most (1 + (rnd g many).1.toNat) (rnd g many).2).2)
def e__law_words : Gen × List Nat × Nat × Nat × Nat → O × List PyData := fun x => (gO x.1, [.str (S x.2.1), .int x.2.2.1, .int x.2.2.2.1, .int x.2.2.2.2])
def F__law_words : Gen × List Nat × Nat × Nat × Nat → BOut := fun x => ⟨.lst ((lwords x.1 x.2.1 x.2.2.1 x.2.2.2.1 x.2.2.2.2).1.map fun w => .str (S w)), gO (lwords x.1 x.2.1 x.2.2.1 x.2.2.2.1 x.2.2.2.2).2, GOk x.1 2000000 ∧ WA x.2.1 x.2.2.2.1 x.2.2.2.2 ∧ 0 < x.2.2.1 ∧ x.2.2.1 ≤ 1000⟩
noncomputable def B__law_words : O → List PyData → BOut := liftB e__law_words F__law_words
theorem inj__law_words : ∀ x y, e__law_words x = e__law_words y → x = y := by
  rintro ⟨a, b, m, c, d⟩ ⟨a', b', m', c', d'⟩ h
  simp only [e__law_words, Prod.mk.injEq, List.cons.injEq, PyData.str.injEq, PyData.int.injEq, S_inj, and_true] at h
  obtain ⟨h1, h2, h3, h4, h5⟩ := h
  have := gO_inj h1
  simp [this, h2]
  omega
@[simp] theorem B__law_words_eq (g : Gen) (signs : List Nat) (many least most : Nat) : B__law_words (.lst [.int g.1, .int g.2.1, .int g.2.2]) [.str (S signs), .int many, .int least, .int most] = ⟨.lst ((lwords g signs many least most).1.map fun w => .str (S w)), gO (lwords g signs many least most).2, GOk g 2000000 ∧ WA signs least most ∧ 0 < many ∧ many ≤ 1000⟩ := liftB_eq (F := F__law_words) inj__law_words (g, signs, many, least, most)
theorem runS_lw (signs : List Nat) (least most : Nat) : ∀ n g, runS (fun g => (PyData.str (S (lword g signs least most).1), (lword g signs least most).2)) n g = ((lwordsN signs least most n g).1.map fun w => PyData.str (S w), (lwordsN signs least most n g).2)
  | 0, _ => rfl
  | n + 1, g => by
    rw [runS, runS_lw signs least most n]
    rfl
theorem map_SL (l : List Str) : (l.map L).map (fun w => PyData.str (S w)) = l.map PyData.str := by
  rw [List.map_map]
  apply List.map_congr_left
  intro x _
  simp
abbrev s__law_words : Stmt := topS 27
theorem sc__law_words : FnScope ["generator", "signs", "many", "least", "most", "turn"] ["generator", "signs", "many", "least", "most"] (defScope s__law_words) := ⟨rfl, rfl, rfl, by decide +kernel, rfl, by decide +kernel, by decide +kernel⟩
theorem ok__law_words {f : Addr} {fd : FuncData} {k : Nat} (h : HD K mg "_law_words" ["generator", "signs", "many", "least", "most"] s__law_words f fd) {f__law_random : Addr} {fd__law_random : FuncData} (c__law_random : FnP P w K mg base k "_law_random" ["generator", "bound"] f__law_random fd__law_random (spB K B__law_random 2)) {f__law_word : Addr} {fd__law_word : FuncData} (c__law_word : FnP P w K mg base k "_law_word" ["generator", "signs", "least", "most"] f__law_word fd__law_word (spB K B__law_word 4)) (NB : ∀ x : Str, x ∈ blts → mg x = none) : FnP P w K mg base (k + 1) "_law_words" ["generator", "signs", "many", "least", "most"] f fd (spB K B__law_words 5) := by
  refine fnBT h sc__law_words (fun cdv A out s H E hgu hr => xss_one (xs_ret (xv_sortset rfl hr.units con_sortset (NB _ (by decide)) (NB _ (by decide)) (xa_one (xv_comp rfl sc__law_words.nd (blkOk_by (own := [("turn", 5)]) (by kernel_rfl)) (xi_range1 (NB _ (by decide)) (xv_add (xv_pure (pv_int)) (xv_callO 0 c__law_random hgu hr (xa_one (xv_pure (pv_name 2)))))) (tgo_name 5) rfl (fun _ _ _ _ _ => (pg_name (i := 5) sc__law_words.nd rfl (by first | exact .inl rfl | exact .inr rfl))) (fun _ _ _ _ _ => xv_callO 0 c__law_word hgu hr (xa_cons (xv_pure (pv_name 1)) (xa_cons (xv_pure (pv_name 3)) (xa_cons (xv_pure (pv_name 4)) xa_nil))))))))) ?_
  rintro ⟨g, signs, many, least, most⟩ ⟨hg, hw, hm0, hm⟩
  simp only at hg hw hm0 hm
  simp only [e__law_words, F__law_words] at *
  have hr := rnd_range (g := g) (b := (many : Int)) (by omega)
  refine ret_r (runs_C (runsL_one (runs_comp (fun g : Gen => [some (gO g), some (.sh (.str (S signs))), some (.sh (.int many)), some (.sh (.int least)), some (.sh (.int most)), none]) (fun g => (PyData.str (S (lword g signs least most).1), (lword g signs least most).2)) (fun g n => GOk g (2000 + 1001 * n)) (rnd g many).2 ((List.range (1 + (rnd g many).1.toNat)).map fun i => .int (i : Nat)) (1 + (rnd g many).1.toNat) ?_ ?_ ?_ ?_ ?_ ?_ ?_ ?_)) ?_ ?_) ?_
  · have e3 : (1 + (rnd g many).1).toNat = 1 + (rnd g many).1.toNat := by omega
    simp [gO, e3]
  · simp [gO]
  · simp [gO, hg.le (show 10 ≤ 2000000 by decide)]
    unfold small62
    omega
  · simp
  · show _ < 16777216
    omega
  · simp
  · exact (rnd_ok (k := 1999999) (by omega) hg).le (by omega)
  · intro s n d hk
    have hk10 : GOk s 2000 := hk.le (by omega)
    refine ⟨.o (.sh (.str (S (lword s signs least most).1))), [some (gO (lword s signs least most).2), some (.sh (.str (S signs))), some (.sh (.int many)), some (.sh (.int least)), some (.sh (.int most)), some (.sh d)], trivial, by simp, ⟨?_, ?_, ?_⟩, trivial, rfl, ?_, ?_⟩
    · simp [gO, hk10, hw]
    · simp [gO]
    · simp [gO]
    · simp
    · exact lword_ok hw.1 hw.2.2.1 (hk.le (by have := hw.2.2.2; omega))
  · simp
  · rw [runS_lw]
    simp [nSortSet, isSs, lwordsN_len]
    show _ < 4096
    omega
  · rw [runS_lw]
    simp [sortSetD, lwords, Function.comp_def]
/-! the words of a list drawn -/
theorem srtS_mem {l : List Str} {x : Str} : x ∈ srtS l ↔ x ∈ l := by
  unfold srtS
  rw [List.mem_mergeSort, List.mem_eraseDups]
theorem srtS_sorted (l : List Str) : (srtS l).Pairwise (fun a b => L a < L b) := by
  have h1 : (srtS l).Pairwise (fun a b => PySem.W.dataLe false PyData.str a b = true) := List.pairwise_mergeSort le_trans_d le_total_d _
  have h2 : (srtS l).Nodup := (List.mergeSort_perm _ _).nodup_iff.mpr (nodup_eraseDups' l)
  refine (h1.and h2).imp fun {a b} ⟨h, ne⟩ => ?_
  rw [leS] at h
  have h3 : ¬ (L b < L a) := fun z => by
    rw [show decide (b.cps.toList < a.cps.toList) = true from decide_eq_true z] at h
    cases h
  exact Classical.byContradiction fun n => ne (str_ext (List.le_antisymm h3 n))
structure Drawn (signs : List Nat) (many least most : Nat) (ws : List (List Nat)) : Prop where
  ne : ws ≠ []
  len : ws.length ≤ many
  mem : ∀ w ∈ ws, least ≤ w.length ∧ w.length ≤ most ∧ ∀ c ∈ w, c ∈ signs
  asc : ws.Pairwise (· < ·)
theorem lwords_drawn {signs : List Nat} {many least most : Nat} (h : WA signs least most) (h0 : 0 < many) (g : Gen) : Drawn signs many least most (lwords g signs many least most).1 := by
  have hr := rnd_range (g := g) (b := (many : Int)) (by omega)
  have hm := lwordsN_mem h (1 + (rnd g many).1.toNat) (rnd g many).2
  have hl := lwordsN_len signs least most (1 + (rnd g many).1.toNat) (rnd g many).2
  unfold lwords
  generalize (lwordsN signs least most (1 + (rnd g many).1.toNat) (rnd g many).2).1 = ls at hm hl
  refine ⟨fun e => ?_, ?_, fun w hw => ?_, ?_⟩
  · cases ls with
    | nil => simp at hl; omega
    | cons x xs =>
      have : S x ∈ srtS ((x :: xs).map S) := srtS_mem.mpr (by simp)
      have e' := List.map_eq_nil_iff.mp e
      rw [e'] at this; cases this
  · have h1 : (srtS (ls.map S)).length ≤ (ls.map S).length := by
      unfold srtS
      rw [List.length_mergeSort]
      exact List.Nodup.length_le_of_subset (nodup_eraseDups' _) fun x hx => List.mem_eraseDups.mp hx
    simp at h1 ⊢
    omega
  · obtain ⟨x, hx, rfl⟩ := List.mem_map.mp hw
    obtain ⟨y, hy, rfl⟩ := List.mem_map.mp (srtS_mem.mp hx)
    exact hm y hy
  · exact List.pairwise_map.mpr (srtS_sorted _)
theorem lwords_ok {signs : List Nat} {many least most : Nat} (h : WA signs least most) (h0 : 0 < many) (hm : many ≤ 1000) {g : Gen} {k : Nat} (hg : GOk g (k + 1 + 1001 * many)) : GOk (lwords g signs many least most).2 k := by
  have hr := rnd_range (g := g) (b := (many : Int)) (by omega)
  unfold lwords
  exact lwordsN_ok h _ _ k (rnd_ok (k := k + 1001 * (1 + (rnd g many).1.toNat)) (by omega) (hg.le (by omega)))
theorem Drawn.nd {signs : List Nat} {many least most : Nat} {ws : List (List Nat)} (h : Drawn signs many least most ws) : ws.Nodup := h.asc.imp fun {a b} hlt e => by rw [e] at hlt; exact List.lt_irrefl b hlt
end
end K65
set_option linter.all false
set_option maxRecDepth 100000
set_option maxHeartbeats 2000000
set_option autoImplicit false
namespace K65
open PySem PySem.Spec PyProof.Rows L2 TL
section
variable {P : Program} {w : World} {K : PySem.W.Frag} {mg : Str → Option Value} {base : Heap}
def F__law_lap : List Nat × List Nat → FOut := fun x => ⟨.sh (.int (ce x.1 x.2)), x.1.length ≤ 1000 ∧ x.2.length ≤ 1000⟩
noncomputable def P__law_lap : List PyData → FOut := liftP e_common_end F__law_lap
@[simp] theorem P__law_lap_eq (a b : List Nat) : P__law_lap [.str (S a), .str (S b)] = ⟨.sh (.int (ce a b)), a.length ≤ 1000 ∧ b.length ≤ 1000⟩ := liftP_eq (F := F__law_lap) inj_common_end (a, b)
def laps (a b : List Nat) : List Nat := (List.range (min a.length b.length + 1)).filter fun k => decide (a.drop (a.length - k) = b.take k)
theorem ce_laps (a b : List Nat) : ce a b ∈ laps a b := by
  have := ce_le a b
  exact List.mem_filter.mpr ⟨List.mem_range.mpr (by omega), decide_eq_true (ce_eq a b)⟩
theorem lap_eq (a b : List Nat) : pickL (fun x y : Nat => decide (y < x)) (laps a b) = ce a b := by
  have hne : laps a b ≠ [] := fun e => by have := ce_laps a b; rw [e] at this; cases this
  have h1 := pickL_mem (fun x y : Nat => decide (y < x)) hne
  have h2 := pickL_least (fun x y : Nat => decide (y < x)) (fun k => -(k : Int)) (fun x y q => decide_eq_true (by omega)) (fun x y q => by have := of_decide_eq_true q; omega) (ce_laps a b)
  obtain ⟨h3, h4⟩ := List.mem_filter.mp h1
  have h5 := ce_max a b _ (by have := List.mem_range.mp h3; omega) (of_decide_eq_true h4)
  have h2' : -((pickL (fun x y : Nat => decide (y < x)) (laps a b) : Nat) : Int) ≤ -((ce a b : Nat) : Int) := h2
  omega
abbrev s__law_lap : Stmt := topS 28
theorem sc__law_lap : FnScope ["one", "other", "size"] ["one", "other"] (defScope s__law_lap) := ⟨rfl, rfl, rfl, by decide +kernel, rfl, by decide +kernel, by decide +kernel⟩
theorem ok__law_lap {f : Addr} {fd : FuncData} {k : Nat} (h : HD K mg "_law_lap" ["one", "other"] s__law_lap f fd) (NB : ∀ x : Str, x ∈ blts → mg x = none) : FnP P w K mg base (k + 1) "_law_lap" ["one", "other"] f fd (spP K P__law_lap 2) := by
  refine fnT h sc__law_lap (fun cdv A out s H E hgu hr => xss_one (xs_ret (xv_pure (pv_callB (call_maxD rfl hr.units) con_best (NB _ (by decide)) (pvs_cons (pv_comp rfl sc__law_lap.nd (blkOk_by (own := [("size", 2)]) (by kernel_rfl)) (pvi_range1 (NB _ (by decide)) (pv_add (pv_callB (call_min2 rfl) con_min2 (NB _ (by decide)) (pvs_cons (pv_callB call_len con_len (NB _ (by decide)) (pvs_cons (pv_name 0) pvs_nil)) (pvs_cons (pv_callB call_len con_len (NB _ (by decide)) (pvs_cons (pv_name 1) pvs_nil)) pvs_nil))) (pv_int))) (tgo_name 2) rfl (fun _ _ _ _ _ => (pg_name (i := 2) sc__law_lap.nd rfl (by first | exact .inl rfl | exact .inr rfl))) (fun _ _ _ _ _ => pvts_one (pvt_cmp (op_eqP hr.units) con_eq (pv_slice (pv_name 0) (po_s (pv_sub (pv_callB call_len con_len (NB _ (by decide)) (pvs_cons (pv_name 0) pvs_nil)) (pv_name 2))) po_n) (pv_slice (pv_name 1) po_n (po_s (pv_name 2))) (nomark _))) (fun _ _ _ _ _ => pv_name 2)) pvs_nil))))) ?_
  rintro ⟨a, b⟩ ⟨ha, hb⟩
  simp only at ha hb
  simp only [e_common_end, F__law_lap]
  have hne : laps a b ≠ [] := fun e => by have := ce_laps a b; rw [e] at this; cases this
  have hf : ((List.range (min a.length b.length + 1)).filter fun x : Nat => decide (cutG a (some ((a.length : Int) - (x : Int))) none = b.take x)) = laps a b := by
    unfold laps
    apply List.filter_congr
    intro k hk
    have hk' : k ≤ min a.length b.length := by have := List.mem_range.mp hk; omega
    rw [cutG_from a _ (by omega)]
    have : ((a.length : Int) - (k : Int)).toNat = a.length - k := by omega
    rw [this]
  have hl : (laps a b).length ≤ 1001 := by
    unfold laps
    refine Nat.le_trans (List.length_filter_le _ _) ?_
    rw [List.length_range]; omega
  have e1 := nBest_map (fun i : Nat => PyData.int (i : Int)) (fun _ _ => rfl) (fun _ => rfl) (fun _ => by simp) (fun _ => by simp) hne
  have e2 := bestMax_map (fun i : Nat => PyData.int (i : Int)) (fun x y : Nat => decide (x < y)) (fun x y => by simp) hne
  rw [lap_eq] at e2
  simp [-Prod.exists, -Prod.forall, -List.mem_filter, Function.comp_def, List.filter_map, if_min, hf, e1, e2]
  refine ⟨⟨by omega, by unfold small62; omega⟩, by omega, fun _ _ => by omega⟩
def F__law_alone : List (List Nat) → FOut := fun ws => ⟨.lst ((alone ws).map fun w => .str (S w)), okWs ws⟩
noncomputable def P__law_alone : List PyData → FOut := liftP e_are_words F__law_alone
@[simp] theorem P__law_alone_eq (ws : List (List Nat)) : P__law_alone [.list (ws.map fun w => .str (S w))] = ⟨.lst ((alone ws).map fun w => .str (S w)), okWs ws⟩ := liftP_eq (F := F__law_alone) inj_are_words ws
abbrev s__law_alone : Stmt := topS 30
theorem sc__law_alone : FnScope ["words", "word", "other"] ["words"] (defScope s__law_alone) := ⟨rfl, rfl, rfl, by decide +kernel, rfl, by decide +kernel, by decide +kernel⟩
theorem ok__law_alone {f : Addr} {fd : FuncData} {k : Nat} (h : HD K mg "_law_alone" ["words"] s__law_alone f fd)  : FnP P w K mg base (k + 1) "_law_alone" ["words"] f fd (spP K P__law_alone 1) := by
  refine fnT h sc__law_alone (fun cdv A out s H E hgu hr => xss_one (xs_ret (xv_pure (pv_comp rfl sc__law_alone.nd (blkOk_by (own := [("word", 1)]) (by kernel_rfl)) (pvi_seq (pv_name 0)) (tgo_name 1) rfl (fun _ _ _ _ _ => (pg_name (i := 1) sc__law_alone.nd rfl (by first | exact .inl rfl | exact .inr rfl))) (fun _ _ _ _ _ => pvts_one (pvt_cmp (op_eqP hr.units) con_eq (pv_comp rfl sc__law_alone.nd (blkOk_by (own := [("other", 2)]) (by kernel_rfl)) (pvi_seq (pv_name 0)) (tgo_name 2) rfl (fun _ _ _ _ _ => (pg_name (i := 2) sc__law_alone.nd rfl (by first | exact .inl rfl | exact .inr rfl))) (fun _ _ _ _ _ => pvts_one (pvt_w (pvw_and (pvt_cmp (op_neP hr.units) con_ne (pv_name 2) (pv_name 1) (nomark _)) (pvw_and1 (pvt_cmp (op_inP hr.units) con_in (pv_name 1) (pv_name 2) (by with_unfolding_all rfl)))))) (fun _ _ _ _ _ => pv_name 2)) (pv_lst pvs_nil) (nomark _))) (fun _ _ _ _ _ => pv_name 1))))) ?_
  rintro ws ⟨h1, h2⟩
  simp [-Prod.exists, -Prod.forall, -List.mem_filter, Function.comp_def, List.filter_map, e_are_words, F__law_alone, alone]
  refine ⟨⟨by omega, fun _ _ => by omega⟩, ?_⟩
  congr 1
  apply List.filter_congr
  intro x _
  rw [Bool.eq_iff_iff]
  simp [List.filter_eq_nil_iff]
  constructor
  · intro h o ho h2
    exact Classical.byContradiction fun ne => by
      rw [h o ho fun z => ne z.symm] at h2
      cases h2
  · intro h o ho ne
    cases q : isIn x o with
    | false => rfl
    | true => exact absurd (h o ho q).symm ne
def ordN (al : List (List Nat)) : Nat → List (List (List Nat))
  | 0 => [[]]
  | n + 1 => (ordN al n).flatMap fun r => (al.filter fun w => !decide (w ∈ r)).map fun w => r ++ [w]
theorem ordN_eq (al : List (List Nat)) : ∀ n, ordN al n = (rowsN al n).map (·.1)
  | 0 => rfl
  | n + 1 => by
    rw [ordN, rowsN, ordN_eq al n, List.map_flatMap, List.flatMap_map]
    congr 1
    funext r
    unfold stepRow
    rw [List.map_map]
    rfl
def e_ws (r : List (List Nat)) : PyData := .list (r.map fun w => .str (S w))
def F__law_orders : List (List Nat) → FOut := fun al => ⟨.sh (.list ((ordN al al.length).map e_ws)), al.length ≤ 6⟩
noncomputable def P__law_orders : List PyData → FOut := liftP e_are_words F__law_orders
@[simp] theorem P__law_orders_eq (al : List (List Nat)) : P__law_orders [.list (al.map fun w => .str (S w))] = ⟨.sh (.list ((ordN al al.length).map e_ws)), al.length ≤ 6⟩ := liftP_eq (F := F__law_orders) inj_are_words al
def ordS (al : List (List Nat)) (r : List (List Nat)) : List (List (List Nat)) := (al.filter fun w => !decide (w ∈ r)).map fun w => r ++ [w]
theorem ordS_len (al r) : (ordS al r).length ≤ al.length := by
  unfold ordS; rw [List.length_map]; exact List.length_filter_le _ _
theorem ordN_few {al : List (List Nat)} (h : al.length ≤ 6) {n : Nat} (hn : n ≤ 6) : (ordN al n).length ≤ 46656 := by
  rw [ordN_eq, List.length_map]; exact rowsN_few h hn
abbrev s__law_orders : Stmt := topS 29
theorem sc__law_orders : FnScope ["items", "rows", "turn", "longer", "row", "item"] ["items"] (defScope s__law_orders) := ⟨rfl, rfl, rfl, by decide +kernel, rfl, by decide +kernel, by decide +kernel⟩
theorem ok__law_orders {f : Addr} {fd : FuncData} {k : Nat} (h : HD K mg "_law_orders" ["items"] s__law_orders f fd)  : FnP P w K mg base (k + 1) "_law_orders" ["items"] f fd (spP K P__law_orders 1) := by
  refine fnT h sc__law_orders (fun cdv A out s H E hgu hr => xss_cons (xs_set 1 sc__law_orders.nd (xv_pure (pv_lst (pvs_cons (pv_lst pvs_nil) pvs_nil)))) (xss_cons (xs_for PassesOwn.never rfl (xi_pure (pvi_seq (pv_name 0))) (pg_name (i := 2) sc__law_orders.nd rfl (by first | exact .inl rfl | exact .inr rfl)) (tgo_name 2) (xss_cons (xs_set 3 sc__law_orders.nd (xv_pure (pv_lst pvs_nil))) (xss_cons (xs_for PassesOwn.never rfl (xi_pure (pvi_seq (pv_name 1))) (pg_name (i := 4) sc__law_orders.nd rfl (by first | exact .inl rfl | exact .inr rfl)) (tgo_name 4) (xss_one (xs_set 3 sc__law_orders.nd (xv_pure (pv_add (pv_name 3) (pv_comp rfl sc__law_orders.nd (blkOk_by (own := [("item", 5)]) (by kernel_rfl)) (pvi_seq (pv_name 0)) (tgo_name 5) rfl (fun _ _ _ _ _ => (pg_name (i := 5) sc__law_orders.nd rfl (by first | exact .inl rfl | exact .inr rfl))) (fun _ _ _ _ _ => pvts_one (pvt_cmp (op_notInP hr.units) con_notIn (pv_name 5) (pv_name 4) (by with_unfolding_all rfl))) (fun _ _ _ _ _ => pv_add (pv_name 4) (pv_lst (pvs_cons (pv_name 5) pvs_nil))))))))) (xss_one (xs_set 1 sc__law_orders.nd (xv_pure (pv_name 3))))))) (xss_one (xs_ret (xv_pure (pv_name 1)))))) ?_
  rintro al hal
  simp only [F__law_orders] at hal
  simp only [e_are_words, F__law_orders]
  refine seq_i fun N1 hN1 => ?_
  simp
  subst hN1
  refine seq_i fun N2 hN2 => ?_
  refine for_i al (fun w => .str (S w)) [some (.sh (.list (al.map fun w => .str (S w)))), some (.sh (.list [.list []])), none, none, none, none]
    (fun i ρ => ∃ t l r, ρ = [some (.sh (.list (al.map fun w => .str (S w)))), some (.sh (.list ((ordN al i).map e_ws))), t, l, r, none]) ?_ ?_ ⟨_, _, _, rfl⟩ ?_ ?_
  · simp
  · simp
  · rintro i x ρ' hx ⟨t, l, r, rfl⟩
    have hi : i < al.length := (List.getElem?_eq_some_iff.mp hx).1
    refine ⟨trivial, by simp, ?_⟩
    refine seq_i fun N3 hN3 => ?_
    simp
    subst hN3
    refine seq_i fun N4 hN4 => ?_
    refine for_i (ordN al i) e_ws [some (.sh (.list (al.map fun w => .str (S w)))), some (.sh (.list ((ordN al i).map e_ws))), some (.sh (.str (S x))), some (.sh (.list [])), r, none]
      (fun j ρ => ∃ r, ρ = [some (.sh (.list (al.map fun w => .str (S w)))), some (.sh (.list ((ordN al i).map e_ws))), some (.sh (.str (S x))), some (.sh (.list ((((ordN al i).take j).flatMap (ordS al)).map e_ws))), r, none]) ?_ ?_ ⟨_, rfl⟩ ?_ ?_
    · simp
    · simp
    · rintro j us ρ' hj ⟨r, rfl⟩
      refine ⟨trivial, by simp, ?_⟩
      have hfl : (al.filter fun x => !decide (x ∈ us)).length ≤ 6 := Nat.le_trans (List.length_filter_le _ _) hal
      have hus : us ∈ ordN al i := List.mem_of_getElem? hj
      have hul : us.length = i := by
        rw [ordN_eq] at hus
        obtain ⟨r, hr, rfl⟩ := List.mem_map.mp hus
        exact (row_spec hr).1
      simp [-Prod.exists, -Prod.forall, -List.mem_filter, Function.comp_def, List.filter_map, e_ws]
      refine ⟨⟨⟨by omega, fun _ _ _ => by omega⟩, ?_⟩, ?_⟩
      · have h1 := flat_len (ordS al) 6 (fun a => Nat.le_trans (ordS_len _ a) hal) ((ordN al i).take j)
        have h2 : ((ordN al i).take j).length ≤ 46656 := Nat.le_trans (List.length_take_le' _ _) (ordN_few hal (by omega))
        rw [List.length_flatMap, List.map_take] at h1
        omega
      · rw [List.take_add_one, hj]
        simp [ordS, e_ws, Function.comp_def]
    · rintro ρ' ⟨r, rfl⟩
      subst hN4
      simp
      rfl
  · rintro ρ' ⟨t, l, r, rfl⟩
    subst hN2
    simp
def shorts (ws : List (List Nat)) : List (Nat × List Nat) := (ordN (alone ws) (alone ws).length).map fun r => ((r.foldl glue []).length, r.foldl glue [])
theorem shorts_eq (ws : List (List Nat)) : shorts ws = (rowsN (alone ws) (alone ws).length).map fun r => (r.2.length, r.2) := by
  unfold shorts
  rw [ordN_eq, List.map_map]
  apply List.map_congr_left
  intro r hr
  simp only [Function.comp_def, (row_spec hr).2.2.2]
def F__law_shortest : List (List Nat) → FOut := fun ws => ⟨.sh (e_pair (bestJ ws)), fewWs ws⟩
noncomputable def P__law_shortest : List PyData → FOut := liftP e_are_words F__law_shortest
@[simp] theorem P__law_shortest_eq (ws : List (List Nat)) : P__law_shortest [.list (ws.map fun w => .str (S w))] = ⟨.sh (e_pair (bestJ ws)), fewWs ws⟩ := liftP_eq (F := F__law_shortest) inj_are_words ws
abbrev s__law_shortest : Stmt := topS 31
theorem sc__law_shortest : FnScope ["words", "found", "row", "string", "word"] ["words"] (defScope s__law_shortest) := ⟨rfl, rfl, rfl, by decide +kernel, rfl, by decide +kernel, by decide +kernel⟩
theorem ok__law_shortest {f : Addr} {fd : FuncData} {k : Nat} (h : HD K mg "_law_shortest" ["words"] s__law_shortest f fd) {f__law_orders : Addr} {fd__law_orders : FuncData} (c__law_orders : FnP P w K mg base k "_law_orders" ["items"] f__law_orders fd__law_orders (spP K P__law_orders 1)) {f__law_alone : Addr} {fd__law_alone : FuncData} (c__law_alone : FnP P w K mg base k "_law_alone" ["words"] f__law_alone fd__law_alone (spP K P__law_alone 1)) {f__law_lap : Addr} {fd__law_lap : FuncData} (c__law_lap : FnP P w K mg base k "_law_lap" ["one", "other"] f__law_lap fd__law_lap (spP K P__law_lap 2)) (NB : ∀ x : Str, x ∈ blts → mg x = none) : FnP P w K mg base (k + 1) "_law_shortest" ["words"] f fd (spP K P__law_shortest 1) := by
  refine fnT h sc__law_shortest (fun cdv A out s H E hgu hr => xss_cons (xs_setO 1 sc__law_shortest.nd (xv_pure (pv_lst pvs_nil))) (xss_cons (xs_for PassesOwn.never rfl (xi_pure (pvi_seq (pv_call c__law_orders hgu hr (pvs_cons (pv_call c__law_alone hgu hr (pvs_cons (pv_name 0) pvs_nil)) pvs_nil)))) (pg_name (i := 2) sc__law_shortest.nd rfl (by first | exact .inl rfl | exact .inr rfl)) (tgo_name 2) (xss_cons (xs_set 3 sc__law_shortest.nd (xv_pure (pv_str))) (xss_cons (xs_for PassesOwn.never rfl (xi_pure (pvi_seq (pv_name 2))) (pg_name (i := 4) sc__law_shortest.nd rfl (by first | exact .inl rfl | exact .inr rfl)) (tgo_name 4) (xss_one (xs_set 3 sc__law_shortest.nd (xv_pure (pv_add (pv_name 3) (pv_slice (pv_name 4) (po_s (pv_call c__law_lap hgu hr (pvs_cons (pv_name 3) (pvs_cons (pv_name 4) pvs_nil)))) po_n)))))) (xss_one (xs_app 1 (xv_pure (pv_tup (pvs_cons (pv_callB call_len con_len (NB _ (by decide)) (pvs_cons (pv_name 3) pvs_nil)) (pvs_cons (pv_name 3) pvs_nil))))))))) (xss_one (xs_ret (xv_pure (pv_callB (call_minD rfl hr.units) con_best (NB _ (by decide)) (pvs_cons (pv_name 1) pvs_nil))))))) ?_
  rintro ws hf
  have hok := fewWs.ok hf
  simp only [F__law_shortest] at hf
  have hal : (alone ws).length ≤ 6 := Nat.le_trans (List.length_filter_le _ _) hf.1
  have haw : ∀ w ∈ alone ws, w.length ≤ 12 := fun w hw => hf.2.1 w (List.mem_filter.mp hw).1
  simp only [e_are_words, F__law_shortest]
  refine seq_i fun N1 hN1 => ?_
  simp
  subst hN1
  refine seq_i fun N2 hN2 => ?_
  refine for_i (ordN (alone ws) (alone ws).length) e_ws [some (.sh (.list (ws.map fun w => .str (S w)))), some (.lst []), none, none, none]
    (fun i ρ => ∃ r s w, ρ = [some (.sh (.list (ws.map fun w => .str (S w)))), some (.lst (((shorts ws).take i).map e_pair)), r, s, w]) ?_ ?_ ⟨_, _, _, rfl⟩ ?_ ?_
  · simp [e_ws]
  · simp [hok, hal]
  · rintro i row ρ' hrow ⟨r, s, w, rfl⟩
    have hmem : row ∈ ordN (alone ws) (alone ws).length := List.mem_of_getElem? hrow
    have hrs : row.length = (alone ws).length ∧ ∀ x ∈ row, x ∈ alone ws := by
      rw [ordN_eq] at hmem
      obtain ⟨q, hq, rfl⟩ := List.mem_map.mp hmem
      exact ⟨(row_spec hq).1, (row_spec hq).2.2.1⟩
    have hsl : ∀ j, ((row.take j).foldl glue []).length ≤ 12 * j := by
      intro j
      induction j with
      | zero => simp
      | succ j ih =>
        rw [List.take_add_one]
        cases q : row[j]? with
        | none => simp; omega
        | some x =>
          have h1 := glue_len ((row.take j).foldl glue []) x
          have h2 := haw x (hrs.2 x (List.mem_of_getElem? q))
          rw [Option.toList_some, List.foldl_append, List.foldl_cons, List.foldl_nil]
          omega
    have hil : i < 46656 := by
      have h1 := (List.getElem?_eq_some_iff.mp hrow).1
      have h2 := ordN_few hal hal
      omega
    refine ⟨trivial, by simp, ?_⟩
    refine seq_i fun N3 hN3 => ?_
    simp
    subst hN3
    refine seq_i fun N4 hN4 => ?_
    refine for_i row (fun w => .str (S w)) [some (.sh (.list (ws.map fun w => .str (S w)))), some (.lst (((shorts ws).take i).map e_pair)), some (.sh (e_ws row)), some (.sh (.str (S []))), w]
      (fun j ρ => ∃ w, ρ = [some (.sh (.list (ws.map fun w => .str (S w)))), some (.lst (((shorts ws).take i).map e_pair)), some (.sh (e_ws row)), some (.sh (.str (S ((row.take j).foldl glue [])))), w]) ?_ ?_ ⟨_, rfl⟩ ?_ ?_
    · simp [e_ws]
    · simp [e_ws]
    · rintro j x ρ' hj ⟨w, rfl⟩
      have hjl : j < 6 := by
        have h1 := (List.getElem?_eq_some_iff.mp hj).1
        omega
      have h1 := hsl j
      have h2 := haw x (hrs.2 x (List.mem_of_getElem? hj))
      refine ⟨trivial, by simp, ?_⟩
      simp
      refine ⟨⟨⟨⟨by omega, by omega⟩, by omega⟩, by omega⟩, ?_⟩
      rw [List.take_add_one, hj]
      simp [glue]
    · rintro ρ' ⟨w, rfl⟩
      subst hN4
      have h3 := hsl row.length
      rw [List.take_length] at h3
      have h4 : (shorts ws)[i]? = some ((row.foldl glue []).length, row.foldl glue []) := by
        unfold shorts
        rw [List.getElem?_map, hrow]; rfl
      simp
      refine ⟨by omega, by omega, ?_⟩
      rw [← List.map_take, ← List.map_take, List.take_add_one, h4, List.map_append]
      rfl
  · rintro ρ' ⟨r, s, w, rfl⟩
    subst hN2
    have hne : shorts ws ≠ [] := fun e => by
      rw [shorts_eq] at e
      exact rows_ne _ (good_alone hf.2.2).nd (List.map_eq_nil_iff.mp e)
    have e0 : (shorts ws).take (ordN (alone ws) (alone ws).length).length = shorts ws := by
      apply List.take_of_length_le
      unfold shorts
      rw [List.length_map]; exact Nat.le_refl _
    have e1 := nBest_map e_pair (fun _ _ => rfl) (fun _ => rfl) (fun _ => by simp [e_pair]) (fun _ => by simp [e_pair]) hne
    have e2 := bestMin_map e_pair ltPair lt_e_pair hne
    rw [e0]
    simp [e1, e2]
    rw [shorts_eq]
    rfl
def F__law_greedy : List (List Nat) → FOut := fun ws => ⟨.sh (.str (S (greedy ws))), fineWs ws⟩
noncomputable def P__law_greedy : List PyData → FOut := liftP e_are_words F__law_greedy
@[simp] theorem P__law_greedy_eq (ws : List (List Nat)) : P__law_greedy [.list (ws.map fun w => .str (S w))] = ⟨.sh (.str (S (greedy ws))), fineWs ws⟩ := liftP_eq (F := F__law_greedy) inj_are_words ws
abbrev s__law_greedy : Stmt := topS 32
theorem sc__law_greedy : FnScope ["words", "left", "turn", "pairs", "one", "lap", "other", "string"] ["words"] (defScope s__law_greedy) := ⟨rfl, rfl, rfl, by decide +kernel, rfl, by decide +kernel, by decide +kernel⟩
theorem ok__law_greedy {f : Addr} {fd : FuncData} {k : Nat} (h : HD K mg "_law_greedy" ["words"] s__law_greedy f fd) {f__law_lap : Addr} {fd__law_lap : FuncData} (c__law_lap : FnP P w K mg base k "_law_lap" ["one", "other"] f__law_lap fd__law_lap (spP K P__law_lap 2)) {f__law_alone : Addr} {fd__law_alone : FuncData} (c__law_alone : FnP P w K mg base k "_law_alone" ["words"] f__law_alone fd__law_alone (spP K P__law_alone 1)) (NB : ∀ x : Str, x ∈ blts → mg x = none) : FnP P w K mg base (k + 1) "_law_greedy" ["words"] f fd (spP K P__law_greedy 1) := by
  refine fnT h sc__law_greedy (fun cdv A out s H E hgu hr => xss_cons (xs_set 1 sc__law_greedy.nd (xv_pure (pv_call c__law_alone hgu hr (pvs_cons (pv_name 0) pvs_nil)))) (xss_cons (xs_for PassesOwn.never rfl (xi_pure (pvi_range1 (NB _ (by decide)) (pv_sub (pv_callB call_len con_len (NB _ (by decide)) (pvs_cons (pv_name 1) pvs_nil)) (pv_int)))) (pg_name (i := 2) sc__law_greedy.nd rfl (by first | exact .inl rfl | exact .inr rfl)) (tgo_name 2) (xss_cons (xs_set 3 sc__law_greedy.nd (xv_pure (pv_lst pvs_nil))) (xss_cons (xs_for PassesOwn.never rfl (xi_pure (pvi_seq (pv_name 1))) (pg_name (i := 4) sc__law_greedy.nd rfl (by first | exact .inl rfl | exact .inr rfl)) (tgo_name 4) (xss_one (xs_set 3 sc__law_greedy.nd (xv_pure (pv_add (pv_name 3) (pv_comp rfl sc__law_greedy.nd (blkOk_by (own := [("other", 6)]) (by kernel_rfl)) (pvi_seq (pv_name 1)) (tgo_name 6) rfl (fun _ _ _ _ _ => (pg_name (i := 6) sc__law_greedy.nd rfl (by first | exact .inl rfl | exact .inr rfl))) (fun _ _ _ _ _ => pvts_one (pvt_cmp (op_neP hr.units) con_ne (pv_name 6) (pv_name 4) (nomark _))) (fun _ _ _ _ _ => pv_tup (pvs_cons (pv_sub (pv_int) (pv_call c__law_lap hgu hr (pvs_cons (pv_name 4) (pvs_cons (pv_name 6) pvs_nil)))) (pvs_cons (pv_name 4) (pvs_cons (pv_name 6) pvs_nil)))))))))) (xss_cons (xs_tgt (xv_pure (pv_callB (call_minD rfl hr.units) con_best (NB _ (by decide)) (pvs_cons (pv_name 3) pvs_nil))) (pg_tup rfl (pgs_cons (pg_name (i := 5) sc__law_greedy.nd rfl (by first | exact .inl rfl | exact .inr rfl)) (pgs_cons (pg_name (i := 4) sc__law_greedy.nd rfl (by first | exact .inl rfl | exact .inr rfl)) (pgs_cons (pg_name (i := 6) sc__law_greedy.nd rfl (by first | exact .inl rfl | exact .inr rfl)) pgs_nil)))) (tgo_t3 5 4 6)) (xss_one (xs_set 1 sc__law_greedy.nd (xv_pure (pv_add (pv_comp rfl sc__law_greedy.nd (blkOk_by (own := [("string", 7)]) (by kernel_rfl)) (pvi_seq (pv_name 1)) (tgo_name 7) rfl (fun _ _ _ _ _ => (pg_name (i := 7) sc__law_greedy.nd rfl (by first | exact .inl rfl | exact .inr rfl))) (fun _ _ _ _ _ => pvts_one (pvt_cmp (op_notInP hr.units) con_notIn (pv_name 7) (pv_lst (pvs_cons (pv_name 4) (pvs_cons (pv_name 6) pvs_nil))) (by with_unfolding_all rfl))) (fun _ _ _ _ _ => pv_name 7)) (pv_lst (pvs_cons (pv_add (pv_name 4) (pv_slice (pv_name 6) (po_s (pv_sub (pv_int) (pv_name 5))) po_n)) pvs_nil)))))))))) (xss_one (xs_ret (xv_pure (pv_ix (pv_name 1) (pv_int))))))) ?_
  rintro ws ⟨hf, hw⟩
  have hok := fewWs.ok hf
  have nd := hf.2.2
  have hal : (alone ws).length ≤ 6 := Nat.le_trans (List.length_filter_le _ _) hf.1
  have haw : ((alone ws).map List.length).sum ≤ 72 := by
    have := sum_bound 12 (alone ws) fun w h => hf.2.1 w (mem_alone.mp h).1
    omega
  have hne : ws ≠ [] := fun e => by rw [e] at hw; cases hw
  have h0 : 0 < (alone ws).length := List.length_pos_iff.mpr (alone_ne hne)
  simp only [e_are_words, F__law_greedy]
  refine seq_i fun N1 hN1 => ?_
  simp [hok]
  subst hN1
  refine seq_i fun N2 hN2 => ?_
  refine for_rng ((alone ws).length - 1) (fun k => .int (k : Nat)) [some (.sh (.list (ws.map fun w => .str (S w)))), some (.sh (.list ((alone ws).map fun w => .str (S w)))), none, none, none, none, none, none]
    (fun i ρ => ∃ t p o le ot, ρ = [some (.sh (.list (ws.map fun w => .str (S w)))), some (.sh (.list ((greedyN i (alone ws)).map fun w => .str (S w)))), t, p, o, le, ot, none]) ?_ ?_ ⟨_, _, _, _, _, rfl⟩ ?_ ?_
  · have : ((alone ws).length : Int) - 1 = (((alone ws).length - 1 : Nat) : Int) := by omega
    simp [this]
  · simp
    unfold small62
    omega
  · rintro i ρ' hi ⟨t, p, o, le, ot, rfl⟩
    obtain ⟨g, hlen, hsum, -⟩ := greedyN_good (good_alone nd) i (by omega)
    obtain ⟨l, hl⟩ : ∃ l, l = greedyN i (alone ws) := ⟨_, rfl⟩
    rw [← hl] at g hlen hsum ⊢
    have hall : ∀ w ∈ l, w.length ≤ 72 := fun w h => Nat.le_trans (le_sum l h) (by omega)
    have h2 : 2 ≤ l.length := by omega
    refine ⟨trivial, by simp, ?_⟩
    refine seq_i fun N4 hN4 => ?_
    simp
    subst hN4
    refine seq_i fun N5 hN5 => ?_
    refine for_i l (fun w => .str (S w)) [some (.sh (.list (ws.map fun w => .str (S w)))), some (.sh (.list (l.map fun w => .str (S w)))), some (.sh (.int (i : Int))), some (.sh (.list [])), o, le, ot, none]
      (fun j ρ => ∃ o, ρ = [some (.sh (.list (ws.map fun w => .str (S w)))), some (.sh (.list (l.map fun w => .str (S w)))), some (.sh (.int (i : Int))), some (.sh (.list (((l.take j).flatMap (pairG1 l)).map e_tri))), o, le, ot, none]) ?_ ?_ ⟨_, rfl⟩ ?_ ?_
    · simp
    · simp
    · rintro j one ρ' hj ⟨o, rfl⟩
      have hone : one ∈ l := List.mem_of_getElem? hj
      refine ⟨trivial, by simp, ?_⟩
      have hfl : (l.filter fun x => !decide (x = one)).length ≤ 6 := Nat.le_trans (List.length_filter_le _ _) (by omega)
      simp [-Prod.exists, -Prod.forall, -List.mem_filter, Function.comp_def, List.filter_map]
      refine ⟨⟨⟨by omega, fun a ha _ => ⟨by have := hall _ hone; omega, by have := hall _ ha; omega⟩⟩, ?_⟩, ?_⟩
      · have h1 := flat_len (pairG1 l) 6 (fun a => Nat.le_trans (pairG1_len _ a) (by omega)) (l.take j)
        have h3 : (l.take j).length ≤ 6 := Nat.le_trans (List.length_take_le' _ _) (by omega)
        rw [List.length_flatMap, List.map_take] at h1
        omega
      · rw [List.take_add_one, hj]
        simp [pairG1, e_tri, Function.comp_def]
    · rintro ρ' ⟨o, rfl⟩
      subst hN5
      dsimp only
      refine seq_i fun N6 hN6 => ?_
      rw [List.take_length, ← pairsG_eq]
      have e1 := nBest_map e_tri (fun _ _ => rfl) (fun _ => rfl) (fun _ => by simp [e_tri]) (fun _ => by simp [e_tri]) (pairs_ne g h2)
      have e2 : bestD PySem.W.minD (.list ((pairsG l).map e_tri)) = .tuple [.int (bestG l).1, .str (S (bestG l).2.1), .str (S (bestG l).2.2)] := bestMin_map e_tri ltTri lt_e_tri (pairs_ne g h2)
      simp [e1, e2]
      subst hN6
      obtain ⟨m1, m2, -, m4, -⟩ := bestG_spec g h2
      have hfl : (l.filter fun s => !decide (s ∈ [(bestG l).2.1, (bestG l).2.2])).length ≤ 6 := Nat.le_trans (List.length_filter_le _ _) (by omega)
      have hs := step_len g h2
      have hfe : (l.filter fun x => !decide ((bestG l).2.1 = x) && !decide ((bestG l).2.2 = x)) = l.filter fun s => !decide (s ∈ [(bestG l).2.1, (bestG l).2.2]) := by
        apply List.filter_congr
        intro x _
        simp [eq_comm]
      simp [-Prod.exists, -Prod.forall, -List.mem_filter, Function.comp_def, List.filter_map, m4]
      rw [hfe]
      have b1 := hall _ m1
      have b2 := hall _ m2
      refine ⟨⟨by omega, ⟨by omega, by omega⟩, by omega⟩, ?_⟩
      rw [greedyN_succ, ← hl]
      unfold stepG
      rw [List.map_append]
      rfl
  · rintro ρ' ⟨t, p, o, le, ot, rfl⟩
    subst hN2
    rw [greedy_one nd hne]
    simp
end
end K65
set_option linter.all false
set_option maxRecDepth 100000
set_option maxHeartbeats 2000000
set_option autoImplicit false
namespace K65
open PySem PySem.Spec PyProof.Rows L2 TL
section
variable {P : Program} {w : World} {K : PySem.W.Frag} {mg : Str → Option Value} {base : Heap}
theorem ascW_of {ws : List (List Nat)} (h : ws.Pairwise (· < ·)) : ascW ws = true := by
  unfold ascW
  rw [List.all_eq_true]
  intro k hk
  have hk' : k < ws.length - 1 := List.mem_range.mp hk
  refine decide_eq_true ?_
  rw [List.getD_eq_getElem?_getD, List.getD_eq_getElem?_getD, List.getElem?_eq_getElem (by omega), List.getElem?_eq_getElem (by omega)]
  exact List.pairwise_iff_getElem.mp h k (k + 1) (by omega) (by omega) (by omega)
theorem Drawn.fine {signs : List Nat} {ws : List (List Nat)} (h : Drawn signs 5 1 4 ws) (hs : ∀ c ∈ signs, isLow c = true) : fineWs ws := by
  refine ⟨⟨by have := h.len; omega, fun w hw => by have := h.mem w hw; omega, h.nd⟩, ?_⟩
  unfold areWords
  rw [ascW_of h.asc, Bool.and_true, Bool.and_eq_true]
  refine ⟨by simpa using h.ne, List.all_eq_true.mpr fun w hw => ?_⟩
  have := h.mem w hw
  unfold isWord
  rw [Bool.and_eq_true]
  exact ⟨decide_eq_true (by omega), List.all_eq_true.mpr fun c hc => hs c (this.2.2 c hc)⟩
def pairW (g : Gen) : List Nat × List Nat × Gen := ((lword g [97, 98] 1 6).1, (lword (lword g [97, 98] 1 6).2 [97, 98] 1 6).1, (lword (lword g [97, 98] 1 6).2 [97, 98] 1 6).2)
def fourW : Nat → Gen → Gen
  | 0, g => g
  | n + 1, g => (pairW (fourW n g)).2.2
def signsAt (i : Nat) : List Nat := [[97, 98], [97, 98, 99], [97]].getD i []
def drawW (g : Gen) : List (List Nat) × Gen := lwords (rnd g 3).2 (signsAt (rnd g 3).1.toNat) 5 1 4
def rightG (g : Gen) : Gen := fourW 4 (drawW g).2
theorem signs_ok (g : Gen) : WA (signsAt (rnd g 3).1.toNat) 1 4 ∧ (∀ c ∈ signsAt (rnd g 3).1.toNat, isLow c = true) ∧ ([PyData.str (S [97, 98]), .str (S [97, 98, 99]), .str (S [97])].getD (rnd g 3).1.toNat .none = .str (S (signsAt (rnd g 3).1.toNat))) := by
  have hr := rnd_range (g := g) (b := 3) (by decide)
  have : (rnd g 3).1.toNat = 0 ∨ (rnd g 3).1.toNat = 1 ∨ (rnd g 3).1.toNat = 2 := by omega
  rcases this with e | e | e <;> rw [e] <;> refine ⟨⟨by decide, by decide, by decide, by decide⟩, by decide, rfl⟩
theorem wab : WA [97, 98] 1 6 := ⟨by decide, by decide, by decide, by decide⟩
theorem pairW_ok {g : Gen} {k : Nat} (hg : GOk g (k + 14)) : GOk (pairW g).2.2 k := lword_ok wab.1 wab.2.2.1 (lword_ok wab.1 wab.2.2.1 (hg.le (by omega)))
theorem fourW_ok {g : Gen} : ∀ (n k : Nat), GOk g (k + 14 * n) → GOk (fourW n g) k
  | 0, k, h => h
  | n + 1, k, h => pairW_ok (fourW_ok n (k + 14) (h.le (by omega)))
theorem drawW_ok {g : Gen} {k : Nat} (hg : GOk g (k + 6000)) : GOk (drawW g).2 k :=
  lwords_ok (signs_ok g).1 (by decide) (by decide) (rnd_ok (by decide) (hg.le (by omega)))
theorem rightG_ok {g : Gen} {k : Nat} (hg : GOk g (k + 7000)) : GOk (rightG g) k := fourW_ok 4 k (drawW_ok (hg.le (by omega)))
theorem ab_word {g : Gen} : isWord (lword g [97, 98] 1 6).1 = true := by
  have h1 := lword_len g [97, 98] (least := 1) (most := 6) (by decide)
  have h2 := lword_mem (signs := [97, 98]) (by decide) g 1 6
  unfold isWord
  rw [Bool.and_eq_true]
  refine ⟨decide_eq_true (by omega), List.all_eq_true.mpr fun c hc => ?_⟩
  have := h2 c hc
  have h3 : c = 97 ∨ c = 98 := by simpa using this
  rcases h3 with rfl | rfl <;> decide
theorem ce_self (a : List Nat) : ce a a = a.length := by
  have h1 := ce_le a a
  have h2 := ce_max a a a.length (by omega) (by simp)
  omega
theorem lw16 (g : Gen) : B__law_word (.lst [.int g.1, .int g.2.1, .int g.2.2]) [.str (S [97, 98]), .int 1, .int 6] = ⟨.sh (.str (S (lword g [97, 98] 1 6).1)), gO (lword g [97, 98] 1 6).2, GOk g 2000 ∧ WA [97, 98] 1 6⟩ := B__law_word_eq g [97, 98] 1 6
def e__law_right : Gen → O × List PyData := fun g => (gO g, [])
def F__law_right : Gen → BOut := fun g => ⟨.sh (.bool true), gO (rightG g), GOk g 3000000⟩
noncomputable def B__law_right : O → List PyData → BOut := liftB e__law_right F__law_right
theorem inj__law_right : ∀ x y, e__law_right x = e__law_right y → x = y := by
  intro a b h
  simp only [e__law_right, Prod.mk.injEq, and_true] at h
  exact gO_inj h
@[simp] theorem B__law_right_eq (g : Gen) : B__law_right (.lst [.int g.1, .int g.2.1, .int g.2.2]) [] = ⟨.sh (.bool true), gO (rightG g), GOk g 3000000⟩ := liftB_eq (F := F__law_right) inj__law_right g
abbrev s__law_right : Stmt := topS 33
theorem sc__law_right : FnScope ["generator", "words", "kept", "short", "greedy", "due", "told", "turn", "one", "other", "word"] ["generator"] (defScope s__law_right) := ⟨rfl, rfl, rfl, by decide +kernel, rfl, by decide +kernel, by decide +kernel⟩
theorem ok__law_right {f : Addr} {fd : FuncData} {k : Nat} (h : HD K mg "_law_right" ["generator"] s__law_right f fd) {f_overlap_of : Addr} {fd_overlap_of : FuncData} (c_overlap_of : FnP P w K mg base k "overlap_of" ["one", "other"] f_overlap_of fd_overlap_of (spP K P_overlap_of 2)) {f__law_lap : Addr} {fd__law_lap : FuncData} (c__law_lap : FnP P w K mg base k "_law_lap" ["one", "other"] f__law_lap fd__law_lap (spP K P__law_lap 2)) {f__law_word : Addr} {fd__law_word : FuncData} (c__law_word : FnP P w K mg base k "_law_word" ["generator", "signs", "least", "most"] f__law_word fd__law_word (spB K B__law_word 4)) {f_greedy_string : Addr} {fd_greedy_string : FuncData} (c_greedy_string : FnP P w K mg base k "greedy_string" ["words"] f_greedy_string fd_greedy_string (spP K P_greedy_string 1)) {f_joined_length : Addr} {fd_joined_length : FuncData} (c_joined_length : FnP P w K mg base k "joined_length" ["words"] f_joined_length fd_joined_length (spP K P_joined_length 1)) {f_joined_string : Addr} {fd_joined_string : FuncData} (c_joined_string : FnP P w K mg base k "joined_string" ["words"] f_joined_string fd_joined_string (spP K P_joined_string 1)) {f__law_greedy : Addr} {fd__law_greedy : FuncData} (c__law_greedy : FnP P w K mg base k "_law_greedy" ["words"] f__law_greedy fd__law_greedy (spP K P__law_greedy 1)) {f__law_shortest : Addr} {fd__law_shortest : FuncData} (c__law_shortest : FnP P w K mg base k "_law_shortest" ["words"] f__law_shortest fd__law_shortest (spP K P__law_shortest 1)) {f__law_words : Addr} {fd__law_words : FuncData} (c__law_words : FnP P w K mg base k "_law_words" ["generator", "signs", "many", "least", "most"] f__law_words fd__law_words (spB K B__law_words 5)) {f__law_pick : Addr} {fd__law_pick : FuncData} (c__law_pick : FnP P w K mg base k "_law_pick" ["generator", "some"] f__law_pick fd__law_pick (spB K B__law_pick 2)) (kb_overlap_of_other_one : KB K fd_overlap_of ["one", "other"] ["other", "one"] [1, 0]) (kb_greedy_string_words : KB K fd_greedy_string ["words"] ["words"] [0]) (kb_joined_length_words : KB K fd_joined_length ["words"] ["words"] [0]) (kb_joined_string_words : KB K fd_joined_string ["words"] ["words"] [0]) (NB : ∀ x : Str, x ∈ blts → mg x = none) : FnP P w K mg base (k + 1) "_law_right" ["generator"] f fd (spB K B__law_right 1) := by
  refine fnBT h sc__law_right (fun cdv A out s H E hgu hr => xss_cons (xs_set 1 sc__law_right.nd (xv_callO 0 c__law_words hgu hr (xa_cons (xv_callO 0 c__law_pick hgu hr (xa_one (xv_pure (pv_lst (pvs_cons (pv_str) (pvs_cons (pv_str) (pvs_cons (pv_str) pvs_nil))))))) (xa_cons (xv_pure (pv_int)) (xa_cons (xv_pure (pv_int)) (xa_cons (xv_pure (pv_int)) xa_nil)))))) (xss_cons (xs_tgt (xv_pure (pv_tup (pvs_cons (pv_callB (call_reprD hgu hr.units) con_reprW (NB _ (by decide)) (pvs_cons (pv_name 1) pvs_nil)) (pvs_cons (pv_call c__law_shortest hgu hr (pvs_cons (pv_name 1) pvs_nil)) (pvs_cons (pv_call c__law_greedy hgu hr (pvs_cons (pv_name 1) pvs_nil)) pvs_nil))))) (pg_tup rfl (pgs_cons (pg_name (i := 2) sc__law_right.nd rfl (by first | exact .inl rfl | exact .inr rfl)) (pgs_cons (pg_name (i := 3) sc__law_right.nd rfl (by first | exact .inl rfl | exact .inr rfl)) (pgs_cons (pg_name (i := 4) sc__law_right.nd rfl (by first | exact .inl rfl | exact .inr rfl)) pgs_nil)))) (tgo_t3 2 3 4)) (xss_cons (xs_set 5 sc__law_right.nd (xv_pure (pv_lst (pvs_cons (pv_ix (pv_name 3) (pv_int)) (pvs_cons (pv_ix (pv_name 3) (pv_int)) (pvs_cons (pv_name 4) pvs_nil)))))) (xss_cons (xs_set 6 sc__law_right.nd (xv_pure (pv_lst (pvs_cons (pv_call c_joined_string hgu hr (pvs_cons (pv_name 1) pvs_nil)) (pvs_cons (pv_call c_joined_length hgu hr (pvs_cons (pv_name 1) pvs_nil)) (pvs_cons (pv_call c_greedy_string hgu hr (pvs_cons (pv_name 1) pvs_nil)) pvs_nil)))))) (xss_cons (xs_if (xt_pure (pvt_cmp (op_neP hr.units) con_ne (pv_callB (call_reprD hgu hr.units) con_reprW (NB _ (by decide)) (pvs_cons (pv_lst (pvs_cons (pv_name 6) (pvs_cons (pv_lst (pvs_cons (pv_callK c_joined_string kb_joined_string_words hgu hr (pvk_cons (pv_name 1) pvk_nil)) (pvs_cons (pv_callK c_joined_length kb_joined_length_words hgu hr (pvk_cons (pv_name 1) pvk_nil)) (pvs_cons (pv_callK c_greedy_string kb_greedy_string_words hgu hr (pvk_cons (pv_name 1) pvk_nil)) pvs_nil)))) pvs_nil))) pvs_nil)) (pv_callB (call_reprD hgu hr.units) con_reprW (NB _ (by decide)) (pvs_cons (pv_lst (pvs_cons (pv_name 5) (pvs_cons (pv_name 5) pvs_nil))) pvs_nil)) (nomark _))) (xss_one (xs_ret (xv_pure (pv_bl)))) xss_nil) (xss_cons (xs_if (xt_pure (pvt_w (pvw_or (pvt_cmp (op_neP hr.units) con_ne (pv_comp rfl sc__law_right.nd (blkOk_by (own := [("word", 10)]) (by kernel_rfl)) (pvi_seq (pv_name 1)) (tgo_name 10) rfl (fun _ _ _ _ _ => (pg_name (i := 10) sc__law_right.nd rfl (by first | exact .inl rfl | exact .inr rfl))) (fun _ _ _ _ _ => pvts_one (pvt_w (pvw_or (pvt_cmp (op_notInP hr.units) con_notIn (pv_name 10) (pv_ix (pv_name 3) (pv_int)) (by with_unfolding_all rfl)) (pvw_or1 (pvt_cmp (op_notInP hr.units) con_notIn (pv_name 10) (pv_name 4) (by with_unfolding_all rfl)))))) (fun _ _ _ _ _ => pv_name 10)) (pv_lst pvs_nil) (nomark _)) (pvw_or (pvt_cmp (op_ltP hr.units) con_ord (pv_callB call_len con_len (NB _ (by decide)) (pvs_cons (pv_name 4) pvs_nil)) (pv_ix (pv_name 3) (pv_int)) (nomark _)) (pvw_or1 (pvt_w (pvw_and (pvt_cmp (op_ltP hr.units) con_ord (pv_callB call_len con_len (NB _ (by decide)) (pvs_cons (pv_name 1) pvs_nil)) (pv_int) (nomark _)) (pvw_and1 (pvt_cmp (op_neP hr.units) con_ne (pv_callB call_len con_len (NB _ (by decide)) (pvs_cons (pv_name 4) pvs_nil)) (pv_ix (pv_name 3) (pv_int)) (nomark _)))))))))) (xss_one (xs_ret (xv_pure (pv_bl)))) xss_nil) (xss_cons (xs_for PassesOwn.never rfl (xi_pure (pvi_range1 (NB _ (by decide)) (pv_int))) (pg_name (i := 7) sc__law_right.nd rfl (by first | exact .inl rfl | exact .inr rfl)) (tgo_name 7) (xss_cons (xs_par 8 9 rfl sc__law_right.nd (xa_cons (xv_callO 0 c__law_word hgu hr (xa_cons (xv_pure (pv_str)) (xa_cons (xv_pure (pv_int)) (xa_cons (xv_pure (pv_int)) xa_nil)))) (xa_cons (xv_callO 0 c__law_word hgu hr (xa_cons (xv_pure (pv_str)) (xa_cons (xv_pure (pv_int)) (xa_cons (xv_pure (pv_int)) xa_nil)))) xa_nil))) (xss_cons (xs_set 5 sc__law_right.nd (xv_pure (pv_call c__law_lap hgu hr (pvs_cons (pv_name 8) (pvs_cons (pv_name 9) pvs_nil))))) (xss_one (xs_if (xt_pure (pvt_w (pvw_or (pvt_cmp (op_neP hr.units) con_ne (pv_callB (call_reprD hgu hr.units) con_reprW (NB _ (by decide)) (pvs_cons (pv_lst (pvs_cons (pv_call c_overlap_of hgu hr (pvs_cons (pv_name 8) (pvs_cons (pv_name 9) pvs_nil))) (pvs_cons (pv_callK c_overlap_of kb_overlap_of_other_one hgu hr (pvk_cons (pv_name 9) (pvk_cons (pv_name 8) pvk_nil))) pvs_nil))) pvs_nil)) (pv_callB (call_reprD hgu hr.units) con_reprW (NB _ (by decide)) (pvs_cons (pv_lst (pvs_cons (pv_name 5) (pvs_cons (pv_name 5) pvs_nil))) pvs_nil)) (nomark _)) (pvw_or1 (pvt_cmp (op_neP hr.units) con_ne (pv_call c_overlap_of hgu hr (pvs_cons (pv_name 8) (pvs_cons (pv_name 8) pvs_nil))) (pv_callB call_len con_len (NB _ (by decide)) (pvs_cons (pv_name 8) pvs_nil)) (nomark _)))))) (xss_one (xs_ret (xv_pure (pv_bl)))) xss_nil))))) (xss_one (xs_ret (xv_pure (pv_cmp (op_eqP hr.units) con_eq (pv_callB (call_reprD hgu hr.units) con_reprW (NB _ (by decide)) (pvs_cons (pv_name 1) pvs_nil)) (pv_name 2) (nomark _)))))))))))) ?_
  intro g hg
  simp only [F__law_right] at hg
  obtain ⟨hW, hlow, hpick⟩ := signs_ok g
  have hd := lwords_drawn (many := 5) hW (by decide) (rnd g 3).2
  have hfine := Drawn.fine hd hlow
  have hg2 : GOk (drawW g).2 2000000 := drawW_ok (hg.le (by decide))
  have hg3 : GOk (rnd g 3).2 2000000 := rnd_ok (by decide) (hg.le (by decide))
  have hg10 := hg.le (show 10 ≤ 3000000 by decide)
  change Drawn _ 5 1 4 (drawW g).1 at hd
  change fineWs (drawW g).1 at hfine
  have hB : B__law_words (.lst [.int (rnd g 3).2.1, .int (rnd g 3).2.2.1, .int (rnd g 3).2.2.2]) [.str (S (signsAt (rnd g 3).1.toNat)), .int 5, .int 1, .int 4] = ⟨.lst ((drawW g).1.map fun w => .str (S w)), gO (drawW g).2, GOk (rnd g 3).2 2000000 ∧ WA (signsAt (rnd g 3).1.toNat) 1 4 ∧ 0 < 5 ∧ 5 ≤ 1000⟩ := B__law_words_eq _ _ 5 1 4
  have hfew := hfine.1
  have nd := hd.nd
  have hsmall : ∀ w ∈ (drawW g).1, w.length ≤ 4 ∧ ∀ c ∈ w, c < 4294967296 := fun w hw => by
    have h1 := hd.mem w hw
    refine ⟨h1.2.1, fun c hc => ?_⟩
    have h2 := hlow c (h1.2.2 c hc)
    unfold isLow at h2
    have := of_decide_eq_true h2
    omega
  have hl5 := hd.len
  have hne := hd.ne
  have best1 := bestJ_len nd
  have hbest := fun w hw => bestJ_has nd (w := w) hw
  have hgreed := fun w hw => greedy_has nd (w := w) hw
  have hge := greedy_ge nd
  have htwo := greedy_two nd hne
  simp only [e__law_right, F__law_right]
  refine seq_i fun N1 hN1 => ?_
  simp [gO, hg10, hW, hg3] at hpick ⊢
  simp only [hpick, hB]
  simp [hW, hg3]
  subst hN1
  generalize hws : (drawW g).1 = ws at *
  have hG : ∃ g2, g2 = (drawW g).2 := ⟨_, rfl⟩
  refine seq_i fun N2 hN2 => ?_
  have hwt : wtAll (ws.map fun w => PyData.str (S w)) ≤ 300 := by
    have := wtAll_map (fun w => PyData.str (S w)) 42 ws fun w hw => by have := hsmall w hw; simp; omega
    omega
  have hchar : ∀ w ∈ ws, ∀ c ∈ w, c < 4294967296 := fun w hw => (hsmall w hw).2
  simp [hfew, hfine, e_pair]
  refine ⟨⟨hchar, by omega⟩, ?_⟩
  subst hN2
  have hbl : (bestJ ws).2.length ≤ 72 := by
    obtain ⟨r, hr, e⟩ := bestJ_mem nd
    have h1 := rowsN_size (fun w hw => hfew.2.1 w (mem_alone.mp hw).1) _ r hr
    have h2 : (alone ws).length ≤ ws.length := List.length_filter_le _ _
    rw [e]
    show r.2.length ≤ 72
    omega
  have hgl : (greedy ws).length ≤ 72 := by
    have h1 := greedy_sum nd hne
    have h2 := sum_bound 12 (alone ws) fun w h => hfew.2.1 w (mem_alone.mp h).1
    have h3 : (alone ws).length ≤ ws.length := List.length_filter_le _ _
    omega
  have hbc : ∀ c ∈ (bestJ ws).2, c < 4294967296 := fun c hc => by
    obtain ⟨w, hw, z⟩ := best_mem nd hc
    exact hchar w hw c z
  have hgc : ∀ c ∈ greedy ws, c < 4294967296 := fun c hc => by
    obtain ⟨w, hw, z⟩ := greedy_mem nd hne hc
    exact hchar w hw c z
  have hlog : (bestJ ws).1.log2 < 1920 := by
    have := log2_small (i := ((bestJ ws).1 : Int)) (by omega)
    simpa using this
  refine seq_i fun N3 hN3 => ?_
  simp
  subst hN3
  refine seq_i fun N4 hN4 => ?_
  simp [hfew, hfine]
  subst hN4
  refine seq_i fun N5 hN5 => ?_
  refine if_i ?_ (fun hq => ?_) (fun hq => ?_)
  · simp [hfew, hfine, hlog]
    exact ⟨⟨hbc, hgc⟩, by omega⟩
  · simp [hfew, hfine] at hq
  · subst hN5
    dsimp only
    refine seq_i fun N6 hN6 => ?_
    refine if_i ?_ (fun hq => ?_) (fun hq => ?_)
    · simp [-Prod.exists, -Prod.forall, -List.mem_filter, Function.comp_def, List.filter_map]
      exact ⟨by omega, fun _ => ⟨by omega, fun _ _ => by omega⟩⟩
    · exfalso
      simp [-Prod.exists, -Prod.forall, -List.mem_filter, Function.comp_def, List.filter_map] at hq
      rcases hq with ⟨x, hx, h⟩ | h | ⟨h1, h2⟩
      · have := h (hbest x hx)
        rw [hgreed x hx] at this; cases this
      · omega
      · exact h2 (by have := htwo (by omega); omega)
    · subst hN6
      dsimp only
      refine seq_i fun N7 hN7 => ?_
      refine for_rng 4 (fun k => .int (k : Nat)) [some (gO (drawW g).2), some (.sh (.list (ws.map fun w => .str (S w)))), some (.sh (.str (PyData.list (ws.map fun w => .str (S w))).shown)), some (.sh (.tuple [.int (bestJ ws).1, .str (S (bestJ ws).2)])), some (.sh (.str (S (greedy ws)))),
          some (.sh (.list [.str (S (bestJ ws).2), .int (bestJ ws).1, .str (S (greedy ws))])), some (.sh (.list [.str (S (bestJ ws).2), .int (bestJ ws).1, .str (S (greedy ws))])), none, none, none, none]
        (fun i ρ => ∃ d t a b, ρ = [some (gO (fourW i (drawW g).2)), some (.sh (.list (ws.map fun w => .str (S w)))), some (.sh (.str (PyData.list (ws.map fun w => .str (S w))).shown)), some (.sh (.tuple [.int (bestJ ws).1, .str (S (bestJ ws).2)])), some (.sh (.str (S (greedy ws)))),
          d, some (.sh (.list [.str (S (bestJ ws).2), .int (bestJ ws).1, .str (S (greedy ws))])), t, a, b, none]) ?_ ?_ ⟨_, _, _, _, rfl⟩ ?_ ?_
      · simp
      · simp
        unfold small62; omega
      · rintro i ρ' hi ⟨d, t, a, b, rfl⟩
        have hgi : GOk (fourW i (drawW g).2) 10000 := fourW_ok i 10000 (hg2.le (by omega))
        generalize hgi0 : fourW i (drawW g).2 = gi at *
        have hgi1 : GOk gi 2000 := hgi.le (by decide)
        have hgi2 : GOk (lword gi [97, 98] 1 6).2 2000 := lword_ok wab.1 wab.2.2.1 (hgi.le (by decide))
        refine ⟨trivial, by simp, ?_⟩
        refine seq_i fun N8 hN8 => ?_
        simp [gO, lw16, hgi1, hgi2, wab]
        subst hN8
        have la := lword_len gi [97, 98] (least := 1) (most := 6) (by decide)
        have lb := lword_len (lword gi [97, 98] 1 6).2 [97, 98] (least := 1) (most := 6) (by decide)
        have wa := ab_word (g := gi)
        have wb := ab_word (g := (lword gi [97, 98] 1 6).2)
        have hfin : fourW (i + 1) (drawW g).2 = (lword (lword gi [97, 98] 1 6).2 [97, 98] 1 6).2 := by rw [fourW, hgi0]; rfl
        generalize (lword (lword gi [97, 98] 1 6).2 [97, 98] 1 6).2 = gj at *
        generalize (lword (lword gi [97, 98] 1 6).2 [97, 98] 1 6).1 = wB at *
        generalize (lword gi [97, 98] 1 6).1 = wA at *
        refine seq_i fun N9 hN9 => ?_
        simp
        refine ⟨⟨by omega, by omega⟩, ?_⟩
        subst hN9
        have hc1 : (ce wA wB).log2 < 1920 := by
          have h1 := ce_le wA wB
          have := log2_small (i := (ce wA wB : Int)) (by omega)
          simpa using this
        refine if_i ?_ (fun hq => ?_) (fun hq => ?_)
        · simp [wa, wb, hc1, ce_self]
          omega
        · exfalso
          simp [wa, wb, ce_self] at hq
        · simp [hfin, gO]
      · rintro ρ' ⟨d, t, a, b, rfl⟩
        subst hN7
        simp
        exact ⟨⟨hchar, by omega⟩, rfl⟩
def ex1 : List (List Nat) := [[97, 116, 101], [101, 97, 116], [116, 101, 97]]
def ex2 : List (List Nat) := [[97, 97, 97, 98], [97, 98, 97], [98, 98, 97, 98]]
def ex3 : List (List Nat) := [[97], [98, 97], [99, 98, 97]]
theorem ex1_fine : fineWs ex1 := ⟨⟨by decide, by decide, by decide⟩, by decide +kernel⟩
theorem ex2_fine : fineWs ex2 := ⟨⟨by decide, by decide, by decide⟩, by decide +kernel⟩
theorem ex3_fine : fineWs ex3 := ⟨⟨by decide, by decide, by decide⟩, by decide +kernel⟩
theorem ex1_best : bestJ ex1 = (5, [97, 116, 101, 97, 116]) := by decide +kernel
theorem ex2_best : bestJ ex2 = (8, [97, 97, 97, 98, 98, 97, 98, 97]) := by decide +kernel
theorem ex3_best : bestJ ex3 = (3, [99, 98, 97]) := by decide +kernel
theorem ex2_greedy : greedy ex2 = [97, 97, 97, 98, 97, 98, 98, 97, 98] := by decide +kernel
theorem ex1_s : P_joined_string [.list [.str (S [97, 116, 101]), .str (S [101, 97, 116]), .str (S [116, 101, 97])]] = ⟨.sh (.str (S [97, 116, 101, 97, 116])), fineWs ex1⟩ := (P_joined_string_eq ex1).trans (by rw [ex1_best])
theorem ex1_l : P_joined_length [.list [.str (S [97, 116, 101]), .str (S [101, 97, 116]), .str (S [116, 101, 97])]] = ⟨.sh (.int 5), fineWs ex1⟩ := (P_joined_length_eq ex1).trans (by rw [ex1_best]; rfl)
theorem ex2_s : P_joined_string [.list [.str (S [97, 97, 97, 98]), .str (S [97, 98, 97]), .str (S [98, 98, 97, 98])]] = ⟨.sh (.str (S [97, 97, 97, 98, 98, 97, 98, 97])), fineWs ex2⟩ := (P_joined_string_eq ex2).trans (by rw [ex2_best])
theorem ex2_g : P_greedy_string [.list [.str (S [97, 97, 97, 98]), .str (S [97, 98, 97]), .str (S [98, 98, 97, 98])]] = ⟨.sh (.str (S [97, 97, 97, 98, 97, 98, 98, 97, 98])), fineWs ex2⟩ := (P_greedy_string_eq ex2).trans (by rw [ex2_greedy])
theorem ex3_s : P_joined_string [.list [.str (S [97]), .str (S [98, 97]), .str (S [99, 98, 97])]] = ⟨.sh (.str (S [99, 98, 97])), fineWs ex3⟩ := (P_joined_string_eq ex3).trans (by rw [ex3_best])
theorem ex4_o : P_overlap_of [.str (S [98, 97, 110, 97, 110, 97]), .str (S [110, 97, 115, 97, 108])] = ⟨.sh (.int 2), isWord [98, 97, 110, 97, 110, 97] = true ∧ isWord [110, 97, 115, 97, 108] = true⟩ := (P_overlap_of_eq _ _).trans (by rw [show ce [98, 97, 110, 97, 110, 97] [110, 97, 115, 97, 108] = 2 by decide +kernel]; rfl)
theorem ex5_o : P_overlap_of [.str (S [97, 98]), .str (S [99, 100])] = ⟨.sh (.int 0), isWord [97, 98] = true ∧ isWord [99, 100] = true⟩ := (P_overlap_of_eq _ _).trans (by rw [show ce [97, 98] [99, 100] = 0 by decide +kernel]; rfl)
theorem w1 : isWord [98, 97, 110, 97, 110, 97] = true := by decide +kernel
theorem w2 : isWord [110, 97, 115, 97, 108] = true := by decide +kernel
theorem w3 : isWord [97, 98] = true := by decide +kernel
theorem w4 : isWord [99, 100] = true := by decide +kernel
def e_law : List Int → List PyData := fun ns => [.list (ns.map .int)]
def F_law : List Int → FOut := fun ns => ⟨.sh (.bool true), ns.length ≤ 63⟩
noncomputable def P_law : List PyData → FOut := liftP e_law F_law
theorem inj_law : ∀ x y, e_law x = e_law y → x = y := by
  intro a b h
  simpa only [e_law, List.cons.injEq, PyData.list.injEq, map_int_inj, and_true] using h
theorem P_law_eq (ns : List Int) : P_law [.list (ns.map .int)] = ⟨.sh (.bool true), ns.length ≤ 63⟩ := liftP_eq (F := F_law) inj_law ns
abbrev s_law : Stmt := topS 34
theorem sc_law : FnScope ["script", "index", "generator", "told"] ["script"] (defScope s_law) := ⟨rfl, rfl, rfl, by decide +kernel, rfl, by decide +kernel, by decide +kernel⟩
theorem ok_law {f : Addr} {fd : FuncData} {k : Nat} (h : HD K mg "law" ["script"] s_law f fd) {f_joined_string : Addr} {fd_joined_string : FuncData} (c_joined_string : FnP P w K mg base k "joined_string" ["words"] f_joined_string fd_joined_string (spP K P_joined_string 1)) {f_overlap_of : Addr} {fd_overlap_of : FuncData} (c_overlap_of : FnP P w K mg base k "overlap_of" ["one", "other"] f_overlap_of fd_overlap_of (spP K P_overlap_of 2)) {f_greedy_string : Addr} {fd_greedy_string : FuncData} (c_greedy_string : FnP P w K mg base k "greedy_string" ["words"] f_greedy_string fd_greedy_string (spP K P_greedy_string 1)) {f_joined_length : Addr} {fd_joined_length : FuncData} (c_joined_length : FnP P w K mg base k "joined_length" ["words"] f_joined_length fd_joined_length (spP K P_joined_length 1)) {f__law_right : Addr} {fd__law_right : FuncData} (c__law_right : FnP P w K mg base k "_law_right" ["generator"] f__law_right fd__law_right (spB K B__law_right 1)) {f__law_generator : Addr} {fd__law_generator : FuncData} (c__law_generator : FnP P w K mg base k "_law_generator" ["script", "index"] f__law_generator fd__law_generator (spP K P__law_generator 2)) (NB : ∀ x : Str, x ∈ blts → mg x = none) : FnP P w K mg base (k + 1) "law" ["script"] f fd (spP K P_law 1) := by
  refine fnT h sc_law (fun cdv A out s H E hgu hr => xss_cons (xs_for PassesOwn.never rfl (xi_pure (pvi_range1 (NB _ (by decide)) (pv_int))) (pg_name (i := 1) sc_law.nd rfl (by first | exact .inl rfl | exact .inr rfl)) (tgo_name 1) (xss_cons (xs_setO 2 sc_law.nd (xv_pure (pv_call c__law_generator hgu hr (pvs_cons (pv_name 0) (pvs_cons (pv_name 1) pvs_nil))))) (xss_one (xs_if (xt_w (xw_or (xt_not (xt_val (xv_callO 2 c__law_right hgu hr xa_nil))) (xw_or1 (xt_not (xt_val (xv_callO 2 c__law_right hgu hr xa_nil)))))) (xss_one (xs_ret (xv_pure (pv_bl)))) xss_nil)))) (xss_cons (xs_setO 3 sc_law.nd (xv_pure (pv_lst (pvs_cons (pv_call c_joined_string hgu hr (pvs_cons (pv_lst (pvs_cons (pv_str) (pvs_cons (pv_str) (pvs_cons (pv_str) pvs_nil)))) pvs_nil)) (pvs_cons (pv_call c_joined_length hgu hr (pvs_cons (pv_lst (pvs_cons (pv_str) (pvs_cons (pv_str) (pvs_cons (pv_str) pvs_nil)))) pvs_nil)) (pvs_cons (pv_call c_overlap_of hgu hr (pvs_cons (pv_str) (pvs_cons (pv_str) pvs_nil))) (pvs_cons (pv_call c_greedy_string hgu hr (pvs_cons (pv_lst (pvs_cons (pv_str) (pvs_cons (pv_str) (pvs_cons (pv_str) pvs_nil)))) pvs_nil)) pvs_nil))))))) (xss_cons (xs_app 3 (xv_pure (pv_call c_joined_string hgu hr (pvs_cons (pv_lst (pvs_cons (pv_str) (pvs_cons (pv_str) (pvs_cons (pv_str) pvs_nil)))) pvs_nil)))) (xss_one (xs_ret (xv_pure (pv_cmp (op_eqP hr.units) con_eq (pv_add (pv_name 3) (pv_lst (pvs_cons (pv_call c_overlap_of hgu hr (pvs_cons (pv_str) (pvs_cons (pv_str) pvs_nil))) (pvs_cons (pv_call c_joined_string hgu hr (pvs_cons (pv_lst (pvs_cons (pv_str) (pvs_cons (pv_str) (pvs_cons (pv_str) pvs_nil)))) pvs_nil)) pvs_nil)))) (pv_lst (pvs_cons (pv_str) (pvs_cons (pv_int) (pvs_cons (pv_int) (pvs_cons (pv_str) (pvs_cons (pv_str) (pvs_cons (pv_int) (pvs_cons (pv_str) pvs_nil)))))))) (nomark _)))))))) ?_
  intro ns hn
  simp only [F_law] at hn
  simp only [e_law, F_law]
  refine seq_i fun N1 hN1 => ?_
  refine for_rng 3 (fun k => .int (k : Nat)) [some (.sh (.list (ns.map .int))), none, none, none] (fun i ρ => ∃ t g, ρ = [some (.sh (.list (ns.map .int))), t, g, none]) ?_ ?_ ⟨_, _, rfl⟩ ?_ ?_
  · simp
  · simp
    unfold small62; omega
  · rintro i ρ' hi ⟨t, g, rfl⟩
    have hg := genL_ok ns (i := i) (by omega)
    refine ⟨trivial, by simp, ?_⟩
    refine seq_i fun N2 hN2 => ?_
    have hg1 : GOk (genL ns i) 3000000 := hg.le (by decide)
    have hg2 : GOk (rightG (genL ns i)) 3000000 := rightG_ok (hg.le (by decide))
    simp [P__law_generator_eq, gO]
    refine ⟨⟨by omega, by omega⟩, ?_⟩
    subst hN2
    refine if_i ?_ (fun hq => ?_) (fun hq => ?_)
    · simp [gO, hg1, hg2]
    · exfalso
      simp [gO] at hq
    · simp [gO]
  · rintro ρ' ⟨t, g, rfl⟩
    subst hN1
    refine seq_i fun N2 hN2 => ?_
    simp [ex1_s, ex1_l, ex4_o, ex2_g, ex1_fine, ex2_fine, w1, w2]
    subst hN2
    refine seq_i fun N3 hN3 => ?_
    simp [ex2_s, ex2_fine]
    subst hN3
    simp [ex3_s, ex3_fine, ex5_o, w3, w4]
    rw [ex1_s, ex1_l, ex2_g, ex2_s]
    have c1 : ce [98, 97, 110, 97, 110, 97] [110, 97, 115, 97, 108] = 2 := by decide +kernel
    have c2 : ce [97, 98] [99, 100] = 0 := by decide +kernel
    simp [ex1_fine, ex2_fine, ex3_fine, w1, w2, w3, w4, c1, c2]
end
end K65
set_option linter.all false
open PySem PySem.W PyProof.Rows
set_option maxRecDepth 100000 in
set_option maxHeartbeats 0 in
theorem PySem.Challenge.cw_wordhall_k65_whole_joined_strings_holds : PySem.Challenge.rw_wordhall_k65_whole_joined_strings.Holds := by
  w_on; o_law; k_head; (case hw => w_witness2)
  k_fill
  refine TL.walkG (l := PySem.Challenge.rw_wordhall_k65_whole_joined_strings) (n := 63) (k := 7) (x := "script") (F := K65.P_law) rfl (by decide) rfl ⟨rfl, by decide, by decide⟩ (fun w h Y => PySem.W.kIn_of Y) ?G (fun ns hl => ⟨by rw [K65.P_law_eq]; exact hl, by rw [K65.P_law_eq]⟩)
  case G =>
    intro w mg fa h KX G hmg
    have H_common_end : ∃ f fd, TL.HD (L2.KOf KX) mg "common_end" ["one", "other"] K65.s_common_end f fd := by
      refine' ⟨_, TL.hd_mk KX G ?a ?l ?c ?k ?b⟩
      (case a => unfold L2.KOf; k_is); (case l => unfold L2.KOf; k_is); (case c => unfold L2.KOf; k_is); (case k => unfold L2.KOf; k_is)
      (case b => exact fun _ _ _ _ _ _ us hl => match us, hl with | [_, _], _ => rfl)
    obtain ⟨f_common_end, fd_common_end, h_common_end⟩ := H_common_end
    have H_told_as_one : ∃ f fd, TL.HD (L2.KOf KX) mg "told_as_one" ["one", "other"] K65.s_told_as_one f fd := by
      refine' ⟨_, TL.hd_mk KX G ?a ?l ?c ?k ?b⟩
      (case a => unfold L2.KOf; k_is); (case l => unfold L2.KOf; k_is); (case c => unfold L2.KOf; k_is); (case k => unfold L2.KOf; k_is)
      (case b => exact fun _ _ _ _ _ _ us hl => match us, hl with | [_, _], _ => rfl)
    obtain ⟨f_told_as_one, fd_told_as_one, h_told_as_one⟩ := H_told_as_one
    have H_words_alone : ∃ f fd, TL.HD (L2.KOf KX) mg "words_alone" ["words"] K65.s_words_alone f fd := by
      refine' ⟨_, TL.hd_mk KX G ?a ?l ?c ?k ?b⟩
      (case a => unfold L2.KOf; k_is); (case l => unfold L2.KOf; k_is); (case c => unfold L2.KOf; k_is); (case k => unfold L2.KOf; k_is)
      (case b => exact fun _ _ _ _ _ _ us hl => match us, hl with | [_], _ => rfl)
    obtain ⟨f_words_alone, fd_words_alone, h_words_alone⟩ := H_words_alone
    have H_joined_by_size : ∃ f fd, TL.HD (L2.KOf KX) mg "joined_by_size" ["words"] K65.s_joined_by_size f fd := by
      refine' ⟨_, TL.hd_mk KX G ?a ?l ?c ?k ?b⟩
      (case a => unfold L2.KOf; k_is); (case l => unfold L2.KOf; k_is); (case c => unfold L2.KOf; k_is); (case k => unfold L2.KOf; k_is)
      (case b => exact fun _ _ _ _ _ _ us hl => match us, hl with | [_], _ => rfl)
    obtain ⟨f_joined_by_size, fd_joined_by_size, h_joined_by_size⟩ := H_joined_by_size
    have H_is_letter : ∃ f fd, TL.HD (L2.KOf KX) mg "is_letter" ["value"] K65.s_is_letter f fd := by
      refine' ⟨_, TL.hd_mk KX G ?a ?l ?c ?k ?b⟩
      (case a => unfold L2.KOf; k_is); (case l => unfold L2.KOf; k_is); (case c => unfold L2.KOf; k_is); (case k => unfold L2.KOf; k_is)
      (case b => exact fun _ _ _ _ _ _ us hl => match us, hl with | [_], _ => rfl)
    obtain ⟨f_is_letter, fd_is_letter, h_is_letter⟩ := H_is_letter
    have H_is_word : ∃ f fd, TL.HD (L2.KOf KX) mg "is_word" ["value"] K65.s_is_word f fd := by
      refine' ⟨_, TL.hd_mk KX G ?a ?l ?c ?k ?b⟩
      (case a => unfold L2.KOf; k_is); (case l => unfold L2.KOf; k_is); (case c => unfold L2.KOf; k_is); (case k => unfold L2.KOf; k_is)
      (case b => exact fun _ _ _ _ _ _ us hl => match us, hl with | [_], _ => rfl)
    obtain ⟨f_is_word, fd_is_word, h_is_word⟩ := H_is_word
    have H_are_words : ∃ f fd, TL.HD (L2.KOf KX) mg "are_words" ["value"] K65.s_are_words f fd := by
      refine' ⟨_, TL.hd_mk KX G ?a ?l ?c ?k ?b⟩
      (case a => unfold L2.KOf; k_is); (case l => unfold L2.KOf; k_is); (case c => unfold L2.KOf; k_is); (case k => unfold L2.KOf; k_is)
      (case b => exact fun _ _ _ _ _ _ us hl => match us, hl with | [_], _ => rfl)
    obtain ⟨f_are_words, fd_are_words, h_are_words⟩ := H_are_words
    have H_check_words : ∃ f fd, TL.HD (L2.KOf KX) mg "check_words" ["words"] K65.s_check_words f fd := by
      refine' ⟨_, TL.hd_mk KX G ?a ?l ?c ?k ?b⟩
      (case a => unfold L2.KOf; k_is); (case l => unfold L2.KOf; k_is); (case c => unfold L2.KOf; k_is); (case k => unfold L2.KOf; k_is)
      (case b => exact fun _ _ _ _ _ _ us hl => match us, hl with | [_], _ => rfl)
    obtain ⟨f_check_words, fd_check_words, h_check_words⟩ := H_check_words
    have H_joined_string : ∃ f fd, TL.HD (L2.KOf KX) mg "joined_string" ["words"] K65.s_joined_string f fd := by
      refine' ⟨_, TL.hd_mk KX G ?a ?l ?c ?k ?b⟩
      (case a => unfold L2.KOf; k_is); (case l => unfold L2.KOf; k_is); (case c => unfold L2.KOf; k_is); (case k => unfold L2.KOf; k_is)
      (case b => exact fun _ _ _ _ _ _ us hl => match us, hl with | [_], _ => rfl)
    obtain ⟨f_joined_string, fd_joined_string, h_joined_string⟩ := H_joined_string
    have H_check_word : ∃ f fd, TL.HD (L2.KOf KX) mg "check_word" ["word"] K65.s_check_word f fd := by
      refine' ⟨_, TL.hd_mk KX G ?a ?l ?c ?k ?b⟩
      (case a => unfold L2.KOf; k_is); (case l => unfold L2.KOf; k_is); (case c => unfold L2.KOf; k_is); (case k => unfold L2.KOf; k_is)
      (case b => exact fun _ _ _ _ _ _ us hl => match us, hl with | [_], _ => rfl)
    obtain ⟨f_check_word, fd_check_word, h_check_word⟩ := H_check_word
    have H_overlap_of : ∃ f fd, TL.HD (L2.KOf KX) mg "overlap_of" ["one", "other"] K65.s_overlap_of f fd := by
      refine' ⟨_, TL.hd_mk KX G ?a ?l ?c ?k ?b⟩
      (case a => unfold L2.KOf; k_is); (case l => unfold L2.KOf; k_is); (case c => unfold L2.KOf; k_is); (case k => unfold L2.KOf; k_is)
      (case b => exact fun _ _ _ _ _ _ us hl => match us, hl with | [_, _], _ => rfl)
    obtain ⟨f_overlap_of, fd_overlap_of, h_overlap_of⟩ := H_overlap_of
    have H_greedy_string : ∃ f fd, TL.HD (L2.KOf KX) mg "greedy_string" ["words"] K65.s_greedy_string f fd := by
      refine' ⟨_, TL.hd_mk KX G ?a ?l ?c ?k ?b⟩
      (case a => unfold L2.KOf; k_is); (case l => unfold L2.KOf; k_is); (case c => unfold L2.KOf; k_is); (case k => unfold L2.KOf; k_is)
      (case b => exact fun _ _ _ _ _ _ us hl => match us, hl with | [_], _ => rfl)
    obtain ⟨f_greedy_string, fd_greedy_string, h_greedy_string⟩ := H_greedy_string
    have H_joined_length : ∃ f fd, TL.HD (L2.KOf KX) mg "joined_length" ["words"] K65.s_joined_length f fd := by
      refine' ⟨_, TL.hd_mk KX G ?a ?l ?c ?k ?b⟩
      (case a => unfold L2.KOf; k_is); (case l => unfold L2.KOf; k_is); (case c => unfold L2.KOf; k_is); (case k => unfold L2.KOf; k_is)
      (case b => exact fun _ _ _ _ _ _ us hl => match us, hl with | [_], _ => rfl)
    obtain ⟨f_joined_length, fd_joined_length, h_joined_length⟩ := H_joined_length
    have H__law_lap : ∃ f fd, TL.HD (L2.KOf KX) mg "_law_lap" ["one", "other"] K65.s__law_lap f fd := by
      refine' ⟨_, TL.hd_mk KX G ?a ?l ?c ?k ?b⟩
      (case a => unfold L2.KOf; k_is); (case l => unfold L2.KOf; k_is); (case c => unfold L2.KOf; k_is); (case k => unfold L2.KOf; k_is)
      (case b => exact fun _ _ _ _ _ _ us hl => match us, hl with | [_, _], _ => rfl)
    obtain ⟨f__law_lap, fd__law_lap, h__law_lap⟩ := H__law_lap
    have H__law_hash : ∃ f fd, TL.HD (L2.KOf KX) mg "_law_hash" ["seed", "index"] K65.s__law_hash f fd := by
      refine' ⟨_, TL.hd_mk KX G ?a ?l ?c ?k ?b⟩
      (case a => unfold L2.KOf; k_is); (case l => unfold L2.KOf; k_is); (case c => unfold L2.KOf; k_is); (case k => unfold L2.KOf; k_is)
      (case b => exact fun _ _ _ _ _ _ us hl => match us, hl with | [_, _], _ => rfl)
    obtain ⟨f__law_hash, fd__law_hash, h__law_hash⟩ := H__law_hash
    have H__law_random : ∃ f fd, TL.HD (L2.KOf KX) mg "_law_random" ["generator", "bound"] K65.s__law_random f fd := by
      refine' ⟨_, TL.hd_mk KX G ?a ?l ?c ?k ?b⟩
      (case a => unfold L2.KOf; k_is); (case l => unfold L2.KOf; k_is); (case c => unfold L2.KOf; k_is); (case k => unfold L2.KOf; k_is)
      (case b => exact fun _ _ _ _ _ _ us hl => match us, hl with | [_, _], _ => rfl)
    obtain ⟨f__law_random, fd__law_random, h__law_random⟩ := H__law_random
    have H__law_pick : ∃ f fd, TL.HD (L2.KOf KX) mg "_law_pick" ["generator", "some"] K65.s__law_pick f fd := by
      refine' ⟨_, TL.hd_mk KX G ?a ?l ?c ?k ?b⟩
      (case a => unfold L2.KOf; k_is); (case l => unfold L2.KOf; k_is); (case c => unfold L2.KOf; k_is); (case k => unfold L2.KOf; k_is)
      (case b => exact fun _ _ _ _ _ _ us hl => match us, hl with | [_, _], _ => rfl)
    obtain ⟨f__law_pick, fd__law_pick, h__law_pick⟩ := H__law_pick
    have H__law_word : ∃ f fd, TL.HD (L2.KOf KX) mg "_law_word" ["generator", "signs", "least", "most"] K65.s__law_word f fd := by
      refine' ⟨_, TL.hd_mk KX G ?a ?l ?c ?k ?b⟩
      (case a => unfold L2.KOf; k_is); (case l => unfold L2.KOf; k_is); (case c => unfold L2.KOf; k_is); (case k => unfold L2.KOf; k_is)
      (case b => exact fun _ _ _ _ _ _ us hl => match us, hl with | [_, _, _, _], _ => rfl)
    obtain ⟨f__law_word, fd__law_word, h__law_word⟩ := H__law_word
    have H__law_alone : ∃ f fd, TL.HD (L2.KOf KX) mg "_law_alone" ["words"] K65.s__law_alone f fd := by
      refine' ⟨_, TL.hd_mk KX G ?a ?l ?c ?k ?b⟩
      (case a => unfold L2.KOf; k_is); (case l => unfold L2.KOf; k_is); (case c => unfold L2.KOf; k_is); (case k => unfold L2.KOf; k_is)
      (case b => exact fun _ _ _ _ _ _ us hl => match us, hl with | [_], _ => rfl)
    obtain ⟨f__law_alone, fd__law_alone, h__law_alone⟩ := H__law_alone
    have H__law_greedy : ∃ f fd, TL.HD (L2.KOf KX) mg "_law_greedy" ["words"] K65.s__law_greedy f fd := by
      refine' ⟨_, TL.hd_mk KX G ?a ?l ?c ?k ?b⟩
      (case a => unfold L2.KOf; k_is); (case l => unfold L2.KOf; k_is); (case c => unfold L2.KOf; k_is); (case k => unfold L2.KOf; k_is)
      (case b => exact fun _ _ _ _ _ _ us hl => match us, hl with | [_], _ => rfl)
    obtain ⟨f__law_greedy, fd__law_greedy, h__law_greedy⟩ := H__law_greedy
    have H__law_orders : ∃ f fd, TL.HD (L2.KOf KX) mg "_law_orders" ["items"] K65.s__law_orders f fd := by
      refine' ⟨_, TL.hd_mk KX G ?a ?l ?c ?k ?b⟩
      (case a => unfold L2.KOf; k_is); (case l => unfold L2.KOf; k_is); (case c => unfold L2.KOf; k_is); (case k => unfold L2.KOf; k_is)
      (case b => exact fun _ _ _ _ _ _ us hl => match us, hl with | [_], _ => rfl)
    obtain ⟨f__law_orders, fd__law_orders, h__law_orders⟩ := H__law_orders
    have H__law_shortest : ∃ f fd, TL.HD (L2.KOf KX) mg "_law_shortest" ["words"] K65.s__law_shortest f fd := by
      refine' ⟨_, TL.hd_mk KX G ?a ?l ?c ?k ?b⟩
      (case a => unfold L2.KOf; k_is); (case l => unfold L2.KOf; k_is); (case c => unfold L2.KOf; k_is); (case k => unfold L2.KOf; k_is)
      (case b => exact fun _ _ _ _ _ _ us hl => match us, hl with | [_], _ => rfl)
    obtain ⟨f__law_shortest, fd__law_shortest, h__law_shortest⟩ := H__law_shortest
    have H__law_words : ∃ f fd, TL.HD (L2.KOf KX) mg "_law_words" ["generator", "signs", "many", "least", "most"] K65.s__law_words f fd := by
      refine' ⟨_, TL.hd_mk KX G ?a ?l ?c ?k ?b⟩
      (case a => unfold L2.KOf; k_is); (case l => unfold L2.KOf; k_is); (case c => unfold L2.KOf; k_is); (case k => unfold L2.KOf; k_is)
      (case b => exact fun _ _ _ _ _ _ us hl => match us, hl with | [_, _, _, _, _], _ => rfl)
    obtain ⟨f__law_words, fd__law_words, h__law_words⟩ := H__law_words
    have H__law_right : ∃ f fd, TL.HD (L2.KOf KX) mg "_law_right" ["generator"] K65.s__law_right f fd := by
      refine' ⟨_, TL.hd_mk KX G ?a ?l ?c ?k ?b⟩
      (case a => unfold L2.KOf; k_is); (case l => unfold L2.KOf; k_is); (case c => unfold L2.KOf; k_is); (case k => unfold L2.KOf; k_is)
      (case b => exact fun _ _ _ _ _ _ us hl => match us, hl with | [_], _ => rfl)
    obtain ⟨f__law_right, fd__law_right, h__law_right⟩ := H__law_right
    have H__law_cell : ∃ f fd, TL.HD (L2.KOf KX) mg "_law_cell" ["script", "index"] K65.s__law_cell f fd := by
      refine' ⟨_, TL.hd_mk KX G ?a ?l ?c ?k ?b⟩
      (case a => unfold L2.KOf; k_is); (case l => unfold L2.KOf; k_is); (case c => unfold L2.KOf; k_is); (case k => unfold L2.KOf; k_is)
      (case b => exact fun _ _ _ _ _ _ us hl => match us, hl with | [_, _], _ => rfl)
    obtain ⟨f__law_cell, fd__law_cell, h__law_cell⟩ := H__law_cell
    have H__law_generator : ∃ f fd, TL.HD (L2.KOf KX) mg "_law_generator" ["script", "index"] K65.s__law_generator f fd := by
      refine' ⟨_, TL.hd_mk KX G ?a ?l ?c ?k ?b⟩
      (case a => unfold L2.KOf; k_is); (case l => unfold L2.KOf; k_is); (case c => unfold L2.KOf; k_is); (case k => unfold L2.KOf; k_is)
      (case b => exact fun _ _ _ _ _ _ us hl => match us, hl with | [_, _], _ => rfl)
    obtain ⟨f__law_generator, fd__law_generator, h__law_generator⟩ := H__law_generator
    have H_law : ∃ f fd, TL.HD (L2.KOf KX) mg "law" ["script"] K65.s_law f fd := by
      refine' ⟨_, TL.hd_mk KX G ?a ?l ?c ?k ?b⟩
      (case a => unfold L2.KOf; k_is); (case l => unfold L2.KOf; k_is); (case c => unfold L2.KOf; k_is); (case k => unfold L2.KOf; k_is)
      (case b => exact fun _ _ _ _ _ _ us hl => match us, hl with | [_], _ => rfl)
    obtain ⟨f_law, fd_law, h_law⟩ := H_law
    have n_all : mg "all" = none := PySem.W.mg_none_of KX G (by k_is)
    have n_any : mg "any" = none := PySem.W.mg_none_of KX G (by k_is)
    have n_int : mg "int" = none := PySem.W.mg_none_of KX G (by k_is)
    have n_isinstance : mg "isinstance" = none := PySem.W.mg_none_of KX G (by k_is)
    have n_len : mg "len" = none := PySem.W.mg_none_of KX G (by k_is)
    have n_list : mg "list" = none := PySem.W.mg_none_of KX G (by k_is)
    have n_max : mg "max" = none := PySem.W.mg_none_of KX G (by k_is)
    have n_min : mg "min" = none := PySem.W.mg_none_of KX G (by k_is)
    have n_range : mg "range" = none := PySem.W.mg_none_of KX G (by k_is)
    have n_repr : mg "repr" = none := PySem.W.mg_none_of KX G (by k_is)
    have n_set : mg "set" = none := PySem.W.mg_none_of KX G (by k_is)
    have n_sorted : mg "sorted" = none := PySem.W.mg_none_of KX G (by k_is)
    have n_str : mg "str" = none := PySem.W.mg_none_of KX G (by k_is)
    have n_sum : mg "sum" = none := PySem.W.mg_none_of KX G (by k_is)
    have NB : ∀ x : Str, x ∈ K65.blts → mg x = none := by
      intro x hx
      rcases List.mem_cons.mp hx with rfl | hx
      · exact n_all
      rcases List.mem_cons.mp hx with rfl | hx
      · exact n_any
      rcases List.mem_cons.mp hx with rfl | hx
      · exact n_int
      rcases List.mem_cons.mp hx with rfl | hx
      · exact n_isinstance
      rcases List.mem_cons.mp hx with rfl | hx
      · exact n_len
      rcases List.mem_cons.mp hx with rfl | hx
      · exact n_list
      rcases List.mem_cons.mp hx with rfl | hx
      · exact n_max
      rcases List.mem_cons.mp hx with rfl | hx
      · exact n_min
      rcases List.mem_cons.mp hx with rfl | hx
      · exact n_range
      rcases List.mem_cons.mp hx with rfl | hx
      · exact n_repr
      rcases List.mem_cons.mp hx with rfl | hx
      · exact n_set
      rcases List.mem_cons.mp hx with rfl | hx
      · exact n_sorted
      rcases List.mem_cons.mp hx with rfl | hx
      · exact n_str
      rcases List.mem_cons.mp hx with rfl | hx
      · exact n_sum
      cases hx
    have C_MOST_LETTERS : ∃ u : Value, mg "MOST_LETTERS" = some u ∧ L2.RelV (TL.toV K65.d_MOST_LETTERS) u := by
      refine' TL.const_mk KX G ?a ?r
      (case a => k_is)
      (case r => exact ⟨_, rfl⟩)
    obtain ⟨u_MOST_LETTERS, g_MOST_LETTERS, r_MOST_LETTERS⟩ := C_MOST_LETTERS
    have e := hmg.symm.trans h_law.1
    cases e
    refine ⟨fd_law, h_law.bind1 (fun _ _ _ _ _ _ _ => rfl), fun base _ _ => ?_⟩
    have c_common_end := K65.ok_common_end (P := PySem.Challenge.rw_wordhall_k65_whole_joined_strings.prog) (w := w) (base := base) (k := 0) h_common_end NB
    have c_told_as_one := K65.ok_told_as_one (P := PySem.Challenge.rw_wordhall_k65_whole_joined_strings.prog) (w := w) (base := base) (k := 1) h_told_as_one (c_common_end.up (by decide))
    have c_words_alone := K65.ok_words_alone (P := PySem.Challenge.rw_wordhall_k65_whole_joined_strings.prog) (w := w) (base := base) (k := 0) h_words_alone NB
    have c_joined_by_size := K65.ok_joined_by_size (P := PySem.Challenge.rw_wordhall_k65_whole_joined_strings.prog) (w := w) (base := base) (k := 2) h_joined_by_size (c_told_as_one.up (by decide)) (c_words_alone.up (by decide)) NB
    have c_is_letter := K65.ok_is_letter (P := PySem.Challenge.rw_wordhall_k65_whole_joined_strings.prog) (w := w) (base := base) (k := 0) h_is_letter NB
    have c_is_word := K65.ok_is_word (P := PySem.Challenge.rw_wordhall_k65_whole_joined_strings.prog) (w := w) (base := base) (k := 1) h_is_word (c_is_letter.up (by decide)) g_MOST_LETTERS r_MOST_LETTERS NB
    have c_are_words := K65.ok_are_words (P := PySem.Challenge.rw_wordhall_k65_whole_joined_strings.prog) (w := w) (base := base) (k := 2) h_are_words (c_is_word.up (by decide)) NB
    have c_check_words := K65.ok_check_words (P := PySem.Challenge.rw_wordhall_k65_whole_joined_strings.prog) (w := w) (base := base) (k := 3) h_check_words (c_are_words.up (by decide))
    have c_joined_string := K65.ok_joined_string (P := PySem.Challenge.rw_wordhall_k65_whole_joined_strings.prog) (w := w) (base := base) (k := 4) h_joined_string (c_joined_by_size.up (by decide)) (c_check_words.up (by decide))
    have c_check_word := K65.ok_check_word (P := PySem.Challenge.rw_wordhall_k65_whole_joined_strings.prog) (w := w) (base := base) (k := 2) h_check_word (c_is_word.up (by decide))
    have c_overlap_of := K65.ok_overlap_of (P := PySem.Challenge.rw_wordhall_k65_whole_joined_strings.prog) (w := w) (base := base) (k := 3) h_overlap_of (c_common_end.up (by decide)) (c_check_word.up (by decide))
    have c_greedy_string := K65.ok_greedy_string (P := PySem.Challenge.rw_wordhall_k65_whole_joined_strings.prog) (w := w) (base := base) (k := 4) h_greedy_string (c_told_as_one.up (by decide)) (c_common_end.up (by decide)) (c_words_alone.up (by decide)) (c_check_words.up (by decide)) NB
    have c_joined_length := K65.ok_joined_length (P := PySem.Challenge.rw_wordhall_k65_whole_joined_strings.prog) (w := w) (base := base) (k := 4) h_joined_length (c_joined_by_size.up (by decide)) (c_check_words.up (by decide))
    have c__law_lap := K65.ok__law_lap (P := PySem.Challenge.rw_wordhall_k65_whole_joined_strings.prog) (w := w) (base := base) (k := 0) h__law_lap NB
    have c__law_hash := K65.ok__law_hash (P := PySem.Challenge.rw_wordhall_k65_whole_joined_strings.prog) (w := w) (base := base) (k := 0) h__law_hash NB
    have c__law_random := K65.ok__law_random (P := PySem.Challenge.rw_wordhall_k65_whole_joined_strings.prog) (w := w) (base := base) (k := 1) h__law_random (c__law_hash.up (by decide)) NB
    have c__law_pick := K65.ok__law_pick (P := PySem.Challenge.rw_wordhall_k65_whole_joined_strings.prog) (w := w) (base := base) (k := 2) h__law_pick (c__law_random.up (by decide)) NB
    have c__law_word := K65.ok__law_word (P := PySem.Challenge.rw_wordhall_k65_whole_joined_strings.prog) (w := w) (base := base) (k := 3) h__law_word (c__law_random.up (by decide)) (c__law_pick.up (by decide)) NB
    have c__law_alone := K65.ok__law_alone (P := PySem.Challenge.rw_wordhall_k65_whole_joined_strings.prog) (w := w) (base := base) (k := 0) h__law_alone
    have c__law_greedy := K65.ok__law_greedy (P := PySem.Challenge.rw_wordhall_k65_whole_joined_strings.prog) (w := w) (base := base) (k := 1) h__law_greedy (c__law_lap.up (by decide)) (c__law_alone.up (by decide)) NB
    have c__law_orders := K65.ok__law_orders (P := PySem.Challenge.rw_wordhall_k65_whole_joined_strings.prog) (w := w) (base := base) (k := 0) h__law_orders
    have c__law_shortest := K65.ok__law_shortest (P := PySem.Challenge.rw_wordhall_k65_whole_joined_strings.prog) (w := w) (base := base) (k := 1) h__law_shortest (c__law_orders.up (by decide)) (c__law_alone.up (by decide)) (c__law_lap.up (by decide)) NB
    have c__law_words := K65.ok__law_words (P := PySem.Challenge.rw_wordhall_k65_whole_joined_strings.prog) (w := w) (base := base) (k := 4) h__law_words (c__law_random.up (by decide)) (c__law_word.up (by decide)) NB
    have c__law_right := K65.ok__law_right (P := PySem.Challenge.rw_wordhall_k65_whole_joined_strings.prog) (w := w) (base := base) (k := 5) h__law_right (c_overlap_of.up (by decide)) (c__law_lap.up (by decide)) (c__law_word.up (by decide)) (c_greedy_string.up (by decide)) (c_joined_length.up (by decide)) (c_joined_string.up (by decide)) (c__law_greedy.up (by decide)) (c__law_shortest.up (by decide)) (c__law_words.up (by decide)) (c__law_pick.up (by decide)) (h_overlap_of.kb fun _ _ _ _ _ _ ws hl => match ws, hl with | [_, _], _ => rfl) (h_greedy_string.kb fun _ _ _ _ _ _ ws hl => match ws, hl with | [_], _ => rfl) (h_joined_length.kb fun _ _ _ _ _ _ ws hl => match ws, hl with | [_], _ => rfl) (h_joined_string.kb fun _ _ _ _ _ _ ws hl => match ws, hl with | [_], _ => rfl) NB
    have c__law_cell := K65.ok__law_cell (P := PySem.Challenge.rw_wordhall_k65_whole_joined_strings.prog) (w := w) (base := base) (k := 0) h__law_cell NB
    have c__law_generator := K65.ok__law_generator (P := PySem.Challenge.rw_wordhall_k65_whole_joined_strings.prog) (w := w) (base := base) (k := 1) h__law_generator (c__law_cell.up (by decide)) NB
    have c_law := K65.ok_law (P := PySem.Challenge.rw_wordhall_k65_whole_joined_strings.prog) (w := w) (base := base) (k := 6) h_law (c_joined_string.up (by decide)) (c_overlap_of.up (by decide)) (c_greedy_string.up (by decide)) (c_joined_length.up (by decide)) (c__law_right.up (by decide)) (c__law_generator.up (by decide)) NB
    exact c_law.ok
