import PyProof.Rows.All
import Wide.All
import OpenK.AllK
import Wide.FinOn
import HandS.ForExc
import HandS.Comp
import HandS.Iter
import HandS.Flow
import HandS.Wide
import HandS.IsInst
import HandS.Dict
import HandS.CallSlots
import HandS.Gcd
import HandS.Style
import HandS.ExcIs
import HandS.Small
import HandS.TupAny
import HandS.TupMul
import PySem.Challenge.RW_stopsandlaps_k00_fractions
set_option Elab.async false
set_option linter.all false
set_option maxRecDepth 100000
set_option maxHeartbeats 4000000
/-! Sem: values of the program as plain data (D), expressions and statements as plain functions upon them; each rule of the hand layer once more, so that a body's walk is one function of plain data. -/
namespace Sem
open PySem PySem.Spec L2
/-- a value of the program, its parts with it -/
inductive D where
  | non | bl (b : Bool) | int (i : Int) | str (s : Str)
  | ty (n : String) | cls (c : Str) | hnd (a : Addr)
  | tup (l : List D) | lst (l : List D) | scr (l : List Int)
  | obj (c : Str) (ns : List Str) (vs : List D)
/-- what comes back: a value, an error (an object), or: not told here -/
inductive Oc (α : Type) where
  | ok (a : α) | er (x : D) | un
def Oc.bind {α β : Type} (o : Oc α) (f : α → Oc β) : Oc β := match o with
  | .ok a => f a
  | .er x => .er x
  | .un => .un
theorem Oc.bind_ok {α β : Type} (a : α) (f : α → Oc β) : (Oc.ok a).bind f = f a := rfl
theorem Oc.bind_er {α β : Type} (x : D) (f : α → Oc β) : (Oc.er x : Oc α).bind f = .er x := rfl
theorem Oc.bind_un {α β : Type} (f : α → Oc β) : (Oc.un : Oc α).bind f = .un := rfl
theorem Oc.bind_eq_ok {α β : Type} {o : Oc α} {f : α → Oc β} {b : β} (h : o.bind f = .ok b) : ∃ a, o = .ok a ∧ f a = .ok b := by
  cases o with
  | ok a => exact ⟨a, rfl, h⟩
  | er x => cases h
  | un => cases h
/-- an error out of an Oc -/
def Oc.map {α β : Type} (f : α → β) (o : Oc α) : Oc β := o.bind fun a => .ok (f a)
/-! ### data and the heap -/
section
variable (K : PySem.W.Frag) (mg : Str → Option Value)
mutual
def Rep (H : Hp) : D → V → Prop
  | .non, v => v = .non
  | .bl b, v => v = .bl b
  | .int i, v => v = .int i
  | .str s, v => v = .str s
  | .ty n, v => v = .ty n
  | .cls c, v => ∃ C, v = .ref C ∧ mg c = some (.ref C)
  | .hnd a, v => v = .ref a
  | .tup l, v => ∃ a xs, v = .ref a ∧ SqT K H a xs ∧ Reps H l xs
  | .lst l, v => ∃ a xs, v = .ref a ∧ H a = some (.lst xs) ∧ Reps H l xs
  | .scr l, v => ∃ a, v = .ref a ∧ SqL K H a (l.map V.int)
  | .obj c ns vs, v => ∃ a C dx xs, v = .ref a ∧ mg c = some (.ref C) ∧ H a = some (.ins C dx (ns.zip xs)) ∧ ns.length = vs.length ∧ Reps H vs xs
def Reps (H : Hp) : List D → List V → Prop
  | [], xs => xs = []
  | d :: l, xs => ∃ x r, xs = x :: r ∧ Rep H d x ∧ Reps H l r
end
end
section
variable {K : PySem.W.Frag} {mg : Str → Option Value} {H H' : Hp}
theorem same_t {a : Addr} {xs : List V} (e : Same H H') (h : SqT K H a xs) : SqT K H' a xs := by
  rcases h with (h | ⟨o, h⟩) | h
  · exact .inl (.inl (e _ _ h))
  · exact .inl (.inr ⟨o, e _ _ h⟩)
  · exact .inr h
mutual
theorem Rep.mono (e : Same H H') : ∀ (d : D) (v : V), Rep K mg H d v → Rep K mg H' d v
  | .non, _, h => h
  | .bl _, _, h => h
  | .int _, _, h => h
  | .str _, _, h => h
  | .ty _, _, h => h
  | .cls _, _, h => h
  | .hnd _, _, h => h
  | .tup l, v, h => by
    unfold Rep at h ⊢
    obtain ⟨a, xs, e1, e2, e3⟩ := h
    exact ⟨a, xs, e1, same_t e e2, Reps.mono e l xs e3⟩
  | .lst l, v, h => by
    unfold Rep at h ⊢
    obtain ⟨a, xs, e1, e2, e3⟩ := h
    exact ⟨a, xs, e1, e _ _ e2, Reps.mono e l xs e3⟩
  | .scr l, v, h => by
    unfold Rep at h ⊢
    obtain ⟨a, e1, e2⟩ := h
    exact ⟨a, e1, e.seq e2⟩
  | .obj c ns vs, v, h => by
    unfold Rep at h ⊢
    obtain ⟨a, C, dx, xs, e1, e2, e3, e4, e5⟩ := h
    exact ⟨a, C, dx, xs, e1, e2, e _ _ e3, e4, Reps.mono e vs xs e5⟩
theorem Reps.mono (e : Same H H') : ∀ (l : List D) (xs : List V), Reps K mg H l xs → Reps K mg H' l xs
  | [], xs, h => h
  | d :: l, xs, h => by
    unfold Reps at h ⊢
    obtain ⟨x, r, e1, e2, e3⟩ := h
    exact ⟨x, r, e1, Rep.mono e d x e2, Reps.mono e l r e3⟩
end
theorem Reps.cons {d : D} {l : List D} {x : V} {r : List V} (h : Rep K mg H d x) (t : Reps K mg H l r) : Reps K mg H (d :: l) (x :: r) := by
  unfold Reps
  exact ⟨x, r, rfl, h, t⟩
theorem Reps.nil : Reps K mg H [] [] := by unfold Reps; rfl
theorem Reps.len : ∀ {l : List D} {xs : List V}, Reps K mg H l xs → xs.length = l.length
  | [], xs, h => by unfold Reps at h; rw [h]; rfl
  | d :: l, xs, h => by
    unfold Reps at h
    obtain ⟨x, r, e1, _, e3⟩ := h
    rw [e1, List.length_cons, List.length_cons, e3.len]
theorem Reps.get : ∀ {l : List D} {xs : List V} {i : Nat} {d : D}, Reps K mg H l xs → l[i]? = some d → ∃ x, xs[i]? = some x ∧ Rep K mg H d x
  | [], _, _, _, _, h => by simp at h
  | d :: l, xs, 0, d', h, e => by
    unfold Reps at h
    obtain ⟨x, r, e1, e2, _⟩ := h
    obtain rfl : d = d' := Option.some.inj e
    exact ⟨x, by rw [e1]; rfl, e2⟩
  | d :: l, xs, i + 1, d', h, e => by
    unfold Reps at h
    obtain ⟨x, r, e1, _, e3⟩ := h
    obtain ⟨y, h1, h2⟩ := e3.get (i := i) (d := d') e
    exact ⟨y, by rw [e1]; exact h1, h2⟩
theorem Reps.append : ∀ {l m : List D} {xs ys : List V}, Reps K mg H l xs → Reps K mg H m ys → Reps K mg H (l ++ m) (xs ++ ys)
  | [], m, xs, ys, h, g => by unfold Reps at h; rw [h]; exact g
  | d :: l, m, xs, ys, h, g => by
    unfold Reps at h
    obtain ⟨x, r, rfl, e2, e3⟩ := h
    exact Reps.cons e2 (e3.append g)
theorem Reps.drop : ∀ {l : List D} {xs : List V} (n : Nat), Reps K mg H l xs → Reps K mg H (l.drop n) (xs.drop n)
  | l, xs, 0, h => h
  | [], xs, n + 1, h => by unfold Reps at h; rw [h]; exact Reps.nil
  | d :: l, xs, n + 1, h => by
    unfold Reps at h
    obtain ⟨x, r, rfl, e2, e3⟩ := h
    exact e3.drop n
theorem Reps.take : ∀ {l : List D} {xs : List V} (n : Nat), Reps K mg H l xs → Reps K mg H (l.take n) (xs.take n)
  | l, xs, 0, h => by rw [List.take_zero, List.take_zero]; exact Reps.nil
  | [], xs, n + 1, h => by unfold Reps at h; rw [h]; exact Reps.nil
  | d :: l, xs, n + 1, h => by
    unfold Reps at h
    obtain ⟨x, r, rfl, e2, e3⟩ := h
    exact Reps.cons e2 (e3.take n)
theorem Reps.set : ∀ {l : List D} {xs : List V} {d : D} {x : V} (n : Nat), Reps K mg H l xs → Rep K mg H d x → Reps K mg H (l.set n d) (xs.set n x)
  | [], xs, d, x, n, h, g => by unfold Reps at h; rw [h]; exact Reps.nil
  | e :: l, xs, d, x, 0, h, g => by
    unfold Reps at h
    obtain ⟨y, r, rfl, e2, e3⟩ := h
    exact Reps.cons g e3
  | e :: l, xs, d, x, n + 1, h, g => by
    unfold Reps at h
    obtain ⟨y, r, rfl, e2, e3⟩ := h
    exact Reps.cons e2 (e3.set n g)
theorem Reps.ints : ∀ {l : List Int} {xs : List V}, Reps K mg H (l.map D.int) xs → xs = l.map V.int
  | [], xs, h => by unfold Reps at h; exact h
  | i :: l, xs, h => by
    rw [List.map_cons] at h
    unfold Reps at h
    obtain ⟨y, r, rfl, e2, e3⟩ := h
    unfold Rep at e2
    rw [e2, e3.ints]
    rfl
theorem Reps.of_ints : ∀ {l : List Int}, Reps K mg H (l.map D.int) (l.map V.int)
  | [] => Reps.nil
  | i :: l => Reps.cons (by unfold Rep; rfl) Reps.of_ints
theorem Reps.atI {l : List D} {xs : List V} {i : Int} {d : D} (h : Reps K mg H l xs) (e : L2.atI l i = some d) : ∃ x, L2.atI xs i = some x ∧ Rep K mg H d x := by
  unfold L2.atI at e ⊢
  rw [h.len]
  cases q : ixN l.length i with
  | none => rw [q] at e; cases e
  | some j =>
    rw [q] at e
    exact h.get e
end
/-! ### how the heap goes on: Hf is what the data leans on, H all that is tracked -/
structure Fr (Hf H Hf' H' : Hp) : Prop where
  ff : Same Hf Hf'
  hh : Same H H'
  fh : Same Hf' H'
  nw : ∀ b, Hf b = none → Hf' b ≠ none → H b = none
theorem Fr.refl {Hf H : Hp} (s : Same Hf H) : Fr Hf H Hf H := ⟨Same.refl _, Same.refl _, s, fun b h g => absurd h g⟩
theorem Fr.trans {Hf H Hf1 H1 Hf2 H2 : Hp} (a : Fr Hf H Hf1 H1) (b : Fr Hf1 H1 Hf2 H2) : Fr Hf H Hf2 H2 := by
  refine ⟨a.ff.trans b.ff, a.hh.trans b.hh, b.fh, fun c h g => ?_⟩
  cases q : Hf1 c with
  | none => exact a.hh.free (b.nw c q g)
  | some o => exact a.nw c h (by rw [q]; simp)
/-- a new object -/
theorem Fr.new {Hf H : Hp} {p : Addr} {o : HO} (s : Same Hf H) (h : H p = none) : Fr Hf H (upd Hf p o) (upd H p o) := by
  have hf : Hf p = none := s.free h
  refine ⟨fun b x e => by rw [upd_ne (ne_of_none e hf)]; exact e, fun b x e => by rw [upd_ne (ne_of_none e h)]; exact e, fun b x e => ?_, fun b h1 h2 => ?_⟩
  · by_cases q : b = p
    · rw [q, upd_same] at e ⊢; exact e
    · rw [upd_ne q] at e ⊢; exact s _ _ e
  · by_cases q : b = p
    · rw [q]; exact h
    · rw [upd_ne q] at h2; exact absurd h1 h2
/-- an untracked thing is written, all else stays -/
theorem Fr.le {Hf H H' : Hp} (s : Same Hf H) (e : Same H H') : Fr Hf H Hf H' := ⟨Same.refl _, e, s.trans e, fun b h g => absurd h g⟩
/-! ### expressions -/
/-- what an expression sees -/
abbrev En := List (Option D)
def En.at (e : En) (i : Nat) : Oc D := match e[i]? with
  | some (some d) => .ok d
  | _ => .un
section
variable (K : PySem.W.Frag) (mg : Str → Option Value)
def EnR (Hf : Hp) (env : En) (σ : L2.St) : Prop := ∀ (i : Nat) (d : D), env[i]? = some (some d) → ∃ v, σ[i]? = some (some v) ∧ Rep K mg Hf d v
/-- an error object in the air -/
def RepX (Hf : Hp) (x : D) (cls : Value) (dd : Option Addr) : Prop := match x with
  | .obj c ns vs => ∃ C, mg c = some (.ref C) ∧ cls = .ref C ∧ ((ns = [] ∧ vs = [] ∧ dd = none) ∨ ∃ a xs, ns ≠ [] ∧ dd = some a ∧ Hf a = some (.xd (ns.zip xs)) ∧ ns.length = vs.length ∧ Reps K mg Hf vs xs)
  | _ => False
/-- behind an expression -/
def Af (E : WX) (Hf H : Hp) (σ : L2.St) (Q : VK) : Oc D → Prop
  | .ok d => ∀ v Hf' H', Fr Hf H Hf' H' → Rep K mg Hf' d v → Q v H'
  | .er x => ∀ cls dd Hf' H', Fr Hf H Hf' H' → RepX K mg Hf' x cls dd → E cls dd σ H'
  | .un => False
def tD (E : WX) (f : En → Oc D) : TE := fun σ H Q => ∃ Hf env, Same Hf H ∧ EnR K mg Hf env σ ∧ Af K mg E Hf H σ Q (f env)
def AfB (E : WX) (Hf H : Hp) (σ : L2.St) (Q : Bool → Hp → Prop) : Oc Bool → Prop
  | .ok b => ∀ Hf' H', Fr Hf H Hf' H' → Q b H'
  | .er x => ∀ cls dd Hf' H', Fr Hf H Hf' H' → RepX K mg Hf' x cls dd → E cls dd σ H'
  | .un => False
def tDB (E : WX) (f : En → Oc Bool) : TT := fun σ H Q => ∃ Hf env, Same Hf H ∧ EnR K mg Hf env σ ∧ AfB K mg E Hf H σ Q (f env)
def AfL (E : WX) (Hf H : Hp) (σ : L2.St) (Q : List V → Hp → Prop) : Oc (List D) → Prop
  | .ok ds => ∀ vs Hf' H', Fr Hf H Hf' H' → Reps K mg Hf' ds vs → Q vs H'
  | .er x => ∀ cls dd Hf' H', Fr Hf H Hf' H' → RepX K mg Hf' x cls dd → E cls dd σ H'
  | .un => False
def tDL (E : WX) (f : En → Oc (List D)) : TA := fun σ H Q => ∃ Hf env, Same Hf H ∧ EnR K mg Hf env σ ∧ AfL K mg E Hf H σ Q (f env)
/-- a new list -/
def AfN (E : WX) (Hf H : Hp) (σ : L2.St) (Q : VK) : Oc (List D) → Prop
  | .ok l => ∀ p xs Hf' H', Fr Hf H Hf' H' → H p = none → Hf' p = none → H' p = some (.lst xs) → Reps K mg Hf' l xs → Q (.ref p) H'
  | .er x => ∀ cls dd Hf' H', Fr Hf H Hf' H' → RepX K mg Hf' x cls dd → E cls dd σ H'
  | .un => False
def tDN (E : WX) (f : En → Oc (List D)) : TE := fun σ H Q => ∃ Hf env, Same Hf H ∧ EnR K mg Hf env σ ∧ AfN K mg E Hf H σ Q (f env)
end
def PEd (X : Cx) (E : WX) (e : Expr) (f : En → Oc D) : Prop := PE X e (tD X.K X.mg E f)
def PTd (X : Cx) (E : WX) (e : Expr) (f : En → Oc Bool) : Prop := PT X e (tDB X.K X.mg E f)
def PWd (X : Cx) (E : WX) (e : Expr) (f : En → Oc Bool) : Prop := PW X e (tDB X.K X.mg E f)
def PAd (X : Cx) (E : WX) (es : List Expr) (f : En → Oc (List D)) : Prop := PA X es (tDL X.K X.mg E f)
def PNd (X : Cx) (E : WX) (e : Expr) (f : En → Oc (List D)) : Prop := PE X e (tDN X.K X.mg E f)
section
variable {X : Cx} {e : Expr}
theorem pe_imp {t t' : TE} (h : PE X e t) (i : ∀ σ H Q, t' σ H Q → t σ H Q) : PE X e t' := ⟨fun pins s σ H Q I w => h.run pins s σ H Q I (i _ _ _ w)⟩
theorem pt_imp {t t' : TT} (h : PT X e t) (i : ∀ σ H Q, t' σ H Q → t σ H Q) : PT X e t' := ⟨fun pins s σ H Q I w => h.run pins s σ H Q I (i _ _ _ w)⟩
theorem pw_imp {t t' : TT} (h : PW X e t) (i : ∀ σ H Q, t' σ H Q → t σ H Q) : PW X e t' := ⟨fun wh pins s σ H Q I w => h.run wh pins s σ H Q I (i _ _ _ w)⟩
theorem pa_imp {es : List Expr} {t t' : TA} (h : PA X es t) (i : ∀ σ H Q, t' σ H Q → t σ H Q) : PA X es t' := ⟨fun pos pins s σ H Q I w => h.run pos pins s σ H Q I (i _ _ _ w)⟩
theorem ps_imp {st : Stmt} {t t' : TS} (h : PS X st t) (i : ∀ D σ H, t' D σ H → t D σ H) : PS X st t' := ⟨fun pins s σ H D I w => h.run pins s σ H D I (i _ _ _ w)⟩
theorem pss_imp {st : List Stmt} {t t' : TS} (h : PSs X st t) (i : ∀ D σ H, t' D σ H → t D σ H) : PSs X st t' := ⟨fun pins s σ H D I w => h.run pins s σ H D I (i _ _ _ w)⟩
end
section
variable {K : PySem.W.Frag} {mg : Str → Option Value} {E : WX} {Hf H Hf1 H1 : Hp} {σ : L2.St} {env : En}
theorem EnR.mono (h : EnR K mg Hf env σ) (e : Same Hf Hf1) : EnR K mg Hf1 env σ := fun i d q => by
  obtain ⟨v, h1, h2⟩ := h i d q
  exact ⟨v, h1, Rep.mono e _ _ h2⟩
theorem Af.er {Q : VK} {x : D} (fr : Fr Hf H Hf1 H1) (h : Af K mg E Hf H σ Q (.er x)) : ∀ {Q1 : VK}, Af K mg E Hf1 H1 σ Q1 (.er x) := fun cls dd Hf' H' f r => h cls dd Hf' H' (fr.trans f) r
/-- one expression, then what is done with its value -/
theorem tD_bind {f : En → Oc D} {g : D → Oc D} {Q R : VK} (s : Same Hf H) (r : EnR K mg Hf env σ) (h : Af K mg E Hf H σ Q ((f env).bind g))
    (k : ∀ d v Hf' H', f env = .ok d → Fr Hf H Hf' H' → Rep K mg Hf' d v → Af K mg E Hf' H' σ Q (g d) → R v H') : tD K mg E f σ H R := by
  refine ⟨Hf, env, s, r, ?_⟩
  cases q : f env with
  | un => rw [q] at h; exact h
  | er x => rw [q] at h; exact h
  | ok d =>
    rw [q] at h
    intro v Hf' H' fr rv
    refine k d v Hf' H' q fr rv ?_
    have h' : Af K mg E Hf H σ Q (g d) := h
    cases z : g d with
    | un => rw [z] at h'; exact h'
    | er x => rw [z] at h'; exact fun cls dd Hf2 H2 f2 r2 => h' cls dd Hf2 H2 (fr.trans f2) r2
    | ok d2 => rw [z] at h'; exact fun v2 Hf2 H2 f2 r2 => h' v2 Hf2 H2 (fr.trans f2) r2
end
end Sem

namespace Sem
open PySem PySem.Spec L2
def Oc.ofO {α : Type} : Option α → Oc α
  | some a => .ok a
  | none => .un
theorem Oc.ofO_some {α : Type} (a : α) : Oc.ofO (some a) = .ok a := rfl
theorem Oc.ofO_none {α : Type} : Oc.ofO (none : Option α) = .un := rfl
section
variable {K : PySem.W.Frag} {mg : Str → Option Value} {E : WX} {Hf H Hf1 H1 : Hp} {σ : L2.St} {env : En}
theorem Af.tr {Q : VK} {o : Oc D} (fr : Fr Hf H Hf1 H1) (h : Af K mg E Hf H σ Q o) : Af K mg E Hf1 H1 σ Q o := by
  cases o with
  | un => exact h
  | er x => exact fun cls dd Hf2 H2 f2 r2 => h cls dd Hf2 H2 (fr.trans f2) r2
  | ok d => exact fun v Hf2 H2 f2 r2 => h v Hf2 H2 (fr.trans f2) r2
theorem AfB.tr {Q : Bool → Hp → Prop} {o : Oc Bool} (fr : Fr Hf H Hf1 H1) (h : AfB K mg E Hf H σ Q o) : AfB K mg E Hf1 H1 σ Q o := by
  cases o with
  | un => exact h
  | er x => exact fun cls dd Hf2 H2 f2 r2 => h cls dd Hf2 H2 (fr.trans f2) r2
  | ok d => exact fun Hf2 H2 f2 => h Hf2 H2 (fr.trans f2)
theorem AfL.tr {Q : List V → Hp → Prop} {o : Oc (List D)} (fr : Fr Hf H Hf1 H1) (h : AfL K mg E Hf H σ Q o) : AfL K mg E Hf1 H1 σ Q o := by
  cases o with
  | un => exact h
  | er x => exact fun cls dd Hf2 H2 f2 r2 => h cls dd Hf2 H2 (fr.trans f2) r2
  | ok d => exact fun v Hf2 H2 f2 r2 => h v Hf2 H2 (fr.trans f2) r2
theorem AfN.tr {Q : VK} {o : Oc (List D)} (fr : Fr Hf H Hf1 H1) (h : AfN K mg E Hf H σ Q o) : AfN K mg E Hf1 H1 σ Q o := by
  cases o with
  | un => exact h
  | er x => exact fun cls dd Hf2 H2 f2 r2 => h cls dd Hf2 H2 (fr.trans f2) r2
  | ok d => exact fun p xs Hf2 H2 f2 n1 n2 => h p xs Hf2 H2 (fr.trans f2) (fr.hh.free n1) n2
/-- from any end of this kind to another -/
theorem tD_use {f : En → Oc D} {R : VK} (s : Same Hf H) (r : EnR K mg Hf env σ) (h : (∃ x, f env = .er x ∧ ∀ cls dd Hf' H', Fr Hf H Hf' H' → RepX K mg Hf' x cls dd → E cls dd σ H') ∨
    ∃ d, f env = .ok d ∧ ∀ v Hf' H', Fr Hf H Hf' H' → Rep K mg Hf' d v → R v H') : tD K mg E f σ H R := by
  refine ⟨Hf, env, s, r, ?_⟩
  rcases h with ⟨x, e, h⟩ | ⟨d, e, h⟩
  · rw [e]; exact h
  · rw [e]; exact h
theorem tDB_use {f : En → Oc Bool} {R : Bool → Hp → Prop} (s : Same Hf H) (r : EnR K mg Hf env σ) (h : (∃ x, f env = .er x ∧ ∀ cls dd Hf' H', Fr Hf H Hf' H' → RepX K mg Hf' x cls dd → E cls dd σ H') ∨
    ∃ d, f env = .ok d ∧ ∀ Hf' H', Fr Hf H Hf' H' → R d H') : tDB K mg E f σ H R := by
  refine ⟨Hf, env, s, r, ?_⟩
  rcases h with ⟨x, e, h⟩ | ⟨d, e, h⟩
  · rw [e]; exact h
  · rw [e]; exact h
theorem tDL_use {f : En → Oc (List D)} {R : List V → Hp → Prop} (s : Same Hf H) (r : EnR K mg Hf env σ) (h : (∃ x, f env = .er x ∧ ∀ cls dd Hf' H', Fr Hf H Hf' H' → RepX K mg Hf' x cls dd → E cls dd σ H') ∨
    ∃ d, f env = .ok d ∧ ∀ v Hf' H', Fr Hf H Hf' H' → Reps K mg Hf' d v → R v H') : tDL K mg E f σ H R := by
  refine ⟨Hf, env, s, r, ?_⟩
  rcases h with ⟨x, e, h⟩ | ⟨d, e, h⟩
  · rw [e]; exact h
  · rw [e]; exact h
theorem tDN_use {f : En → Oc (List D)} {R : VK} (s : Same Hf H) (r : EnR K mg Hf env σ) (h : (∃ x, f env = .er x ∧ ∀ cls dd Hf' H', Fr Hf H Hf' H' → RepX K mg Hf' x cls dd → E cls dd σ H') ∨
    ∃ l, f env = .ok l ∧ ∀ p xs Hf' H', Fr Hf H Hf' H' → H p = none → Hf' p = none → H' p = some (.lst xs) → Reps K mg Hf' l xs → R (.ref p) H') : tDN K mg E f σ H R := by
  refine ⟨Hf, env, s, r, ?_⟩
  rcases h with ⟨x, e, h⟩ | ⟨d, e, h⟩
  · rw [e]; exact h
  · rw [e]; exact h
end
/-- cases of what comes of the first part -/
theorem Oc.cases {α : Type} (o : Oc α) : o = .un ∨ (∃ x, o = .er x) ∨ ∃ a, o = .ok a := by
  cases o with
  | un => exact .inl rfl
  | er x => exact .inr (.inl ⟨x, rfl⟩)
  | ok a => exact .inr (.inr ⟨a, rfl⟩)
section
variable {X : Cx} {E : WX} {pos : Pos}
/-! ### names, constants -/
theorem ped_var {i : Nat} {x : Str} (hN : X.N[i]? = some x := by rfl) (hv : Vis X.env.scope x := by first | exact Or.inl rfl | exact Or.inr (Or.inl rfl) | exact Or.inr (Or.inr rfl)) (hd : (x == ("__debug__" : Str)) = false := by decide)
    (hcd : (x == ("__classdict__" : Str)) = false := by decide) : PEd X E (.Name x pos) (fun env => env.at i) :=
  pe_imp (pe_var hN hv hd hcd) fun σ H Q ⟨Hf, env, s, r, a⟩ => by
    dsimp only [En.at] at a
    split at a
    · rename_i d e
      obtain ⟨v, h1, h2⟩ := r i d e
      exact ⟨v, h1, a v Hf H (Fr.refl s) h2⟩
    · exact a.elim
theorem ped_c {e : Expr} {d : D} {v : V} (h : PE X e (tC v)) (hr : ∀ Hf, Rep X.K X.mg Hf d v) : PEd X E e (fun _ => .ok d) :=
  pe_imp h fun σ H Q ⟨Hf, env, s, r, a⟩ => a v Hf H (Fr.refl s) (hr Hf)
theorem ped_int {i : Int} {j} : PEd X E (.Constant (.int i) j pos) (fun _ => .ok (.int i)) := ped_c pe_int fun _ => by unfold Rep; rfl
theorem ped_bl {b : Bool} {j} : PEd X E (.Constant (.bool b) j pos) (fun _ => .ok (.bl b)) := ped_c pe_bl fun _ => by unfold Rep; rfl
theorem ped_str {z : Str} {j} : PEd X E (.Constant (.str z) j pos) (fun _ => .ok (.str z)) := ped_c pe_str fun _ => by unfold Rep; rfl
theorem ped_non {j} : PEd X E (.Constant .none j pos) (fun _ => .ok .non) := ped_c pe_non fun _ => by unfold Rep; rfl
/-- a built-in class as a value -/
theorem ped_ty {x : Str} {n : String} (hm : X.mg x = none) (hv : bootBuiltins x = some (.type n)) (hg : Gl X x := by rfl) (hn : x ≠ "__name__" := by decide) (hd : (x == ("__debug__" : Str)) = false := by decide) : PEd X E (.Name x pos) (fun _ => .ok (.ty n)) :=
  ped_c (pe_bltn (v := .ty n) hg hm hv rfl hn hd) fun _ => by unfold Rep; rfl
/-- an own class as a value -/
theorem ped_cls {x : Str} {C : Addr} (hm : X.mg x = some (.ref C)) (hg : Gl X x := by rfl) (hd : (x == ("__debug__" : Str)) = false := by decide) : PEd X E (.Name x pos) (fun _ => .ok (.cls x)) :=
  ped_c (pe_glob (v := .ref C) hg hm rfl hd) fun _ => by unfold Rep; exact ⟨C, rfl, hm⟩
/-- a module's constant -/
theorem ped_glob {x : Str} {d : D} {v : V} {u : Value} (hm : X.mg x = some u) (r : RelV v u) (hr : ∀ Hf, Rep X.K X.mg Hf d v) (hg : Gl X x := by rfl) (hd : (x == ("__debug__" : Str)) = false := by decide) : PEd X E (.Name x pos) (fun _ => .ok d) :=
  ped_c (pe_glob hg hm r hd) hr
/-! ### operations upon two values -/
def r2 (K : PySem.W.Frag) (mg : Str → Option Value) (g : D → D → Option D) : R2 := fun x y H Q => ∃ Hf d1 d2 d, Same Hf H ∧ Rep K mg Hf d1 x ∧ Rep K mg Hf d2 y ∧ g d1 d2 = some d ∧ ∀ v Hf' H', Fr Hf H Hf' H' → Rep K mg Hf' d v → Q v H'
abbrev OpD (X : Cx) (f : Value → Value → Sem Value) (g : D → D → Option D) : Prop := OpR X f (r2 X.K X.mg g)
theorem OpR.imp {f : Value → Value → Sem Value} {r r' : R2} (h : OpR X f r) (i : ∀ x y H Q, r' x y H Q → r x y H Q) : OpR X f r' := by
  intro pins s σ H x y v u Q I rx ry w
  exact h pins s σ H x y v u Q I rx ry (i _ _ _ _ w)
variable {a b c : Expr} {fa fb fc : En → Oc D} {g : D → D → Option D}
theorem tOp_imp {σ : L2.St} {H : Hp} {Q : VK} (w : tD X.K X.mg E (fun env => (fa env).bind fun x => (fb env).bind fun y => Oc.ofO (g x y)) σ H Q) : tOp (r2 X.K X.mg g) (tD X.K X.mg E fa) (tD X.K X.mg E fb) σ H Q := by
  obtain ⟨Hf, env, s, r, af⟩ := w
  show tD X.K X.mg E fa σ H fun x H1 => tD X.K X.mg E fb σ H1 fun y H2 => r2 X.K X.mg g x y H2 Q
  refine tD_bind s r af fun d v Hf1 H1 e1 f1 r1 a1 => tD_bind f1.fh (r.mono f1.ff) a1 fun d2 v2 Hf2 H2 e2 f2 r2 a2 => ?_
  cases q : g d d2 with
  | none => rw [q] at a2; exact a2.elim
  | some z =>
    rw [q] at a2
    exact ⟨Hf2, d, d2, z, f2.fh, Rep.mono f2.ff _ _ r1, r2, q, fun v Hf' H' f' r' => a2 v Hf' H' f' r'⟩
theorem ped_op {op : Operator} (ho : OpD X (binaryOp op) g) (ha : PEd X E a fa) (hb : PEd X E b fb) : PEd X E (.BinOp a op b pos) (fun env => (fa env).bind fun x => (fb env).bind fun y => Oc.ofO (g x y)) :=
  pe_imp (pe_op ho ha hb) fun σ H Q w => tOp_imp w
theorem ped_cmp {op : CmpOp} (ho : OpD X (compareOp op) g) (ha : PEd X E a fa) (hb : PEd X E b fb) (hm : behindInMarks op b = false := by first | rfl | exact nomark _) : PEd X E (.Compare a [op] [b] pos) (fun env => (fa env).bind fun x => (fb env).bind fun y => Oc.ofO (g x y)) :=
  pe_imp (pe_cmpR ho ha hb hm) fun σ H Q w => tOp_imp w
/-- a truth value -/
def asB : D → Option Bool
  | .bl b => some b
  | _ => none
theorem rep_bl {K : PySem.W.Frag} {mg : Str → Option Value} {Hf : Hp} {b : Bool} {v : V} (h : Rep K mg Hf (.bl b) v) : v = .bl b := by unfold Rep at h; exact h
theorem rep_int {K : PySem.W.Frag} {mg : Str → Option Value} {Hf : Hp} {b : Int} {v : V} (h : Rep K mg Hf (.int b) v) : v = .int b := by unfold Rep at h; exact h
theorem rep_str {K : PySem.W.Frag} {mg : Str → Option Value} {Hf : Hp} {b : Str} {v : V} (h : Rep K mg Hf (.str b) v) : v = .str b := by unfold Rep at h; exact h
theorem rep_non {K : PySem.W.Frag} {mg : Str → Option Value} {Hf : Hp} {v : V} (h : Rep K mg Hf .non v) : v = .non := by unfold Rep at h; exact h
theorem bl_rep {K : PySem.W.Frag} {mg : Str → Option Value} {Hf : Hp} {b : Bool} : Rep K mg Hf (.bl b) (.bl b) := by unfold Rep; rfl
theorem int_rep {K : PySem.W.Frag} {mg : Str → Option Value} {Hf : Hp} {b : Int} : Rep K mg Hf (.int b) (.int b) := by unfold Rep; rfl
theorem str_rep {K : PySem.W.Frag} {mg : Str → Option Value} {Hf : Hp} {b : Str} : Rep K mg Hf (.str b) (.str b) := by unfold Rep; rfl
theorem non_rep {K : PySem.W.Frag} {mg : Str → Option Value} {Hf : Hp} : Rep K mg Hf .non .non := by unfold Rep; rfl
theorem ptd_cmp {op : CmpOp} (ho : OpD X (compareOp op) g) (ha : PEd X E a fa) (hb : PEd X E b fb) (hm : behindInMarks op b = false := by first | rfl | exact nomark _) :
    PTd X E (.Compare a [op] [b] pos) (fun env => (fa env).bind fun x => (fb env).bind fun y => (Oc.ofO (g x y)).bind fun z => Oc.ofO (asB z)) :=
  pt_imp (pt_cmpR ho ha hb hm) fun σ H Q ⟨Hf, env, s, r, af⟩ => by
    refine tOp_imp ⟨Hf, env, s, r, ?_⟩
    revert af
    dsimp only
    cases fa env with
    | un => exact fun h => h
    | er x => exact fun h => h
    | ok x =>
      cases fb env with
      | un => exact fun h => h
      | er x => exact fun h => h
      | ok y =>
        dsimp only [Oc.bind_ok]
        cases g x y with
        | none => exact fun h => h
        | some z =>
          dsimp only [Oc.bind_ok, Oc.ofO_some]
          cases z with
          | bl k => exact fun h v Hf' H' f' r' => ⟨k, rep_bl r', h Hf' H' f'⟩
          | _ => exact fun h => h.elim
/-! ### truth -/
def truD : D → Option Bool
  | .non => some false
  | .bl b => some b
  | .int i => some (i != 0)
  | .str z => if z.length ≤ sizeLine then some ((z.length : Int) != 0) else none
  | .tup l => some (!l.isEmpty)
  | .lst l => some (!l.isEmpty)
  | .scr l => some (!l.isEmpty)
  | _ => none
theorem reps_empty {K : PySem.W.Frag} {mg : Str → Option Value} {Hf : Hp} {l : List D} {xs : List V} (h : Reps K mg Hf l xs) : xs.isEmpty = l.isEmpty := by
  cases l with
  | nil => unfold Reps at h; rw [h]; rfl
  | cons d l => unfold Reps at h; obtain ⟨x, r, e, _⟩ := h; rw [e]; rfl
theorem tru_of {K : PySem.W.Frag} {mg : Str → Option Value} {Hf H : Hp} (s : Same Hf H) {d : D} {v : V} {k : Bool} (r : Rep K mg Hf d v) (h : truD d = some k) : TruV K v H k := by
  have r := Rep.mono s d v r
  cases d with
  | non => rw [rep_non r]; exact (Option.some.inj h).symm
  | bl b => rw [rep_bl r]; exact (Option.some.inj h).symm
  | int b => rw [rep_int r]; exact (Option.some.inj h).symm
  | str b =>
    rw [rep_str r]
    dsimp only [truD] at h
    by_cases hl : b.length ≤ sizeLine
    · rw [if_pos hl] at h
      exact ⟨hl, (Option.some.inj h).symm⟩
    · rw [if_neg hl] at h
      cases h
  | tup l =>
    unfold Rep at r
    obtain ⟨a, xs, rfl, h1, h2⟩ := r
    exact .inr (.inl ⟨xs, h1, by rw [reps_empty h2]; exact (Option.some.inj h).symm⟩)
  | lst l =>
    unfold Rep at r
    obtain ⟨a, xs, rfl, h1, h2⟩ := r
    exact .inl ⟨xs, SqL.of h1, by rw [reps_empty h2]; exact (Option.some.inj h).symm⟩
  | scr l =>
    unfold Rep at r
    obtain ⟨a, rfl, h1⟩ := r
    refine .inl ⟨_, h1, ?_⟩
    rw [← Option.some.inj h]
    cases l <;> rfl
  | _ => cases h
/-- any expression as a test, but comparisons, and, or, not -/
theorem ptd_val (ha : PEd X E a fa) (he : ∀ whole, isTrue a X.env whole = (do let v ← whole; standAt a.pos; holding [v] (truthy v)) := by intro _; rfl) : PTd X E a (fun env => (fa env).bind fun x => Oc.ofO (truD x)) :=
  pt_imp (pt_truth ha he) fun σ H Q ⟨Hf, env, s, r, af⟩ => by
    show tD X.K X.mg E fa σ H fun x H' => ∃ k, TruV X.K x H' k ∧ Q k H'
    refine ⟨Hf, env, s, r, ?_⟩
    revert af
    dsimp only
    cases fa env with
    | un => exact fun h => h
    | er x => exact fun h => h
    | ok x =>
      dsimp only [Oc.bind_ok]
      intro h v Hf' H' f' r'
      cases q : truD x with
      | none => rw [q] at h; exact h.elim
      | some k => rw [q] at h; exact ⟨k, tru_of f'.fh r' q, h Hf' H' f'⟩
variable {ta tb : En → Oc Bool} {rest : List Expr}
theorem ptd_not (ha : PTd X E a ta) : PTd X E (.UnaryOp .Not a pos) (fun env => (ta env).bind fun k => .ok (!k)) :=
  pt_imp (pt_not ha) fun σ H Q ⟨Hf, env, s, r, af⟩ => by
    show tDB X.K X.mg E ta σ H fun c H1 => Q (!c) H1
    refine ⟨Hf, env, s, r, ?_⟩
    revert af
    dsimp only
    cases ta env with
    | un => exact fun h => h
    | er x => exact fun h => h
    | ok k => exact fun h => h
/-- one test, then what is done with its answer -/
theorem tDB_bind {K : PySem.W.Frag} {mg : Str → Option Value} {Hf H : Hp} {σ : L2.St} {env : En} {f : En → Oc Bool} {u : Bool → Oc Bool} {Q R : Bool → Hp → Prop} (s : Same Hf H) (r : EnR K mg Hf env σ) (h : AfB K mg E Hf H σ Q ((f env).bind u))
    (k : ∀ d Hf' H', f env = .ok d → Fr Hf H Hf' H' → AfB K mg E Hf' H' σ Q (u d) → R d H') : tDB K mg E f σ H R := by
  refine ⟨Hf, env, s, r, ?_⟩
  cases q : f env with
  | un => rw [q] at h; exact h
  | er x => rw [q] at h; exact h
  | ok d => rw [q] at h; exact fun Hf' H' fr => k d Hf' H' q fr (AfB.tr fr h)
theorem AfB.ok_use {K : PySem.W.Frag} {mg : Str → Option Value} {Hf H : Hp} {σ : L2.St} {b : Bool} {Q : Bool → Hp → Prop} (s : Same Hf H) (h : AfB K mg E Hf H σ Q (.ok b)) : Q b H := h Hf H (Fr.refl s)
theorem pwd_and1 (ha : PTd X E a ta) : PWd X E (.BoolOp .And [a] pos) ta := pw_and1 ha
theorem pwd_or1 (ha : PTd X E a ta) : PWd X E (.BoolOp .Or [a] pos) ta := pw_or1 ha
theorem pwd_and (ha : PTd X E a ta) (hb : PWd X E (.BoolOp .And (b :: rest) pos) tb) : PWd X E (.BoolOp .And (a :: b :: rest) pos) (fun env => (ta env).bind fun k => if k = true then tb env else .ok false) :=
  pw_imp (pw_and ha hb) fun σ H Q ⟨Hf, env, s, r, af⟩ => by
    show tDB X.K X.mg E ta σ H fun c H1 => if c = true then tDB X.K X.mg E tb σ H1 Q else Q false H1
    refine tDB_bind s r af fun d Hf' H' e fr h => ?_
    cases d with
    | true => exact ⟨Hf', env, fr.fh, r.mono fr.ff, h⟩
    | false => exact AfB.ok_use fr.fh h
theorem pwd_or (ha : PTd X E a ta) (hb : PWd X E (.BoolOp .Or (b :: rest) pos) tb) : PWd X E (.BoolOp .Or (a :: b :: rest) pos) (fun env => (ta env).bind fun k => if k = true then .ok true else tb env) :=
  pw_imp (pw_or ha hb) fun σ H Q ⟨Hf, env, s, r, af⟩ => by
    show tDB X.K X.mg E ta σ H fun c H1 => if c = true then Q true H1 else tDB X.K X.mg E tb σ H1 Q
    refine tDB_bind s r af fun d Hf' H' e fr h => ?_
    cases d with
    | true => exact AfB.ok_use fr.fh h
    | false => exact ⟨Hf', env, fr.fh, r.mono fr.ff, h⟩
theorem ptd_w (h : PWd X E a ta) : PTd X E a ta := PW.pt h
/-! ### and, or, not, if as values -/
theorem Af.ok_use {K : PySem.W.Frag} {mg : Str → Option Value} {Hf H : Hp} {σ : L2.St} {d : D} {v : V} {Q : VK} (s : Same Hf H) (rv : Rep K mg Hf d v) (h : Af K mg E Hf H σ Q (.ok d)) : Q v H := h v Hf H (Fr.refl s) rv
theorem ped_one {op} (h : PEd X E a fa) : PEd X E (.BoolOp op [a] pos) fa := pe_one h
theorem ped_and (ha : PEd X E a fa) (hb : PEd X E (.BoolOp .And (b :: rest) pos) fb) : PEd X E (.BoolOp .And (a :: b :: rest) pos) (fun env => (fa env).bind fun x => (Oc.ofO (truD x)).bind fun k => if k = true then fb env else .ok x) :=
  pe_imp (pe_andT ha hb) fun σ H Q ⟨Hf, env, s, r, af⟩ => by
    show tD X.K X.mg E fa σ H fun x H1 => ∃ k, TruV X.K x H1 k ∧ if k = true then tD X.K X.mg E fb σ H1 Q else Q x H1
    refine tD_bind s r af fun d v Hf' H' e fr rv h => ?_
    cases q : truD d with
    | none => rw [q] at h; exact h.elim
    | some k =>
      rw [q] at h
      refine ⟨k, tru_of fr.fh rv q, ?_⟩
      cases k with
      | true => exact ⟨Hf', env, fr.fh, r.mono fr.ff, h⟩
      | false => exact Af.ok_use fr.fh rv h
theorem ped_or (ha : PEd X E a fa) (hb : PEd X E (.BoolOp .Or (b :: rest) pos) fb) : PEd X E (.BoolOp .Or (a :: b :: rest) pos) (fun env => (fa env).bind fun x => (Oc.ofO (truD x)).bind fun k => if k = true then .ok x else fb env) :=
  pe_imp (pe_orT ha hb) fun σ H Q ⟨Hf, env, s, r, af⟩ => by
    show tD X.K X.mg E fa σ H fun x H1 => ∃ k, TruV X.K x H1 k ∧ if k = true then Q x H1 else tD X.K X.mg E fb σ H1 Q
    refine tD_bind s r af fun d v Hf' H' e fr rv h => ?_
    cases q : truD d with
    | none => rw [q] at h; exact h.elim
    | some k =>
      rw [q] at h
      refine ⟨k, tru_of fr.fh rv q, ?_⟩
      cases k with
      | true => exact Af.ok_use fr.fh rv h
      | false => exact ⟨Hf', env, fr.fh, r.mono fr.ff, h⟩
theorem ped_not (ha : PEd X E a fa) : PEd X E (.UnaryOp .Not a pos) (fun env => (fa env).bind fun x => (Oc.ofO (truD x)).bind fun k => .ok (.bl (!k))) :=
  pe_imp (pe_notT ha) fun σ H Q ⟨Hf, env, s, r, af⟩ => by
    show tD X.K X.mg E fa σ H fun x H1 => ∃ k, TruV X.K x H1 k ∧ Q (.bl (!k)) H1
    refine tD_bind s r af fun d v Hf' H' e fr rv h => ?_
    cases q : truD d with
    | none => rw [q] at h; exact h.elim
    | some k =>
      rw [q] at h
      exact ⟨k, tru_of fr.fh rv q, Af.ok_use fr.fh bl_rep h⟩
theorem ped_if {t : Expr} (ht : PTd X E t ta) (ha : PEd X E a fa) (hb : PEd X E b fb) : PEd X E (.IfExp t a b pos) (fun env => (ta env).bind fun k => if k = true then fa env else fb env) :=
  pe_imp (pe_ifExp ht ha hb) fun σ H Q ⟨Hf, env, s, r, af⟩ => by
    show tDB X.K X.mg E ta σ H fun c H1 => if c = true then tD X.K X.mg E fa σ H1 Q else tD X.K X.mg E fb σ H1 Q
    refine ⟨Hf, env, s, r, ?_⟩
    revert af
    dsimp only
    cases ta env with
    | un => exact fun h => h
    | er x => exact fun h => h
    | ok k =>
      intro h Hf' H' fr
      cases k with
      | true => exact ⟨Hf', env, fr.fh, r.mono fr.ff, Af.tr fr h⟩
      | false => exact ⟨Hf', env, fr.fh, r.mono fr.ff, Af.tr fr h⟩
/-! ### argument lists -/
theorem pad_nil : PAd X E [] (fun _ => .ok []) := pa_imp pa_nil fun σ H Q ⟨Hf, env, s, r, af⟩ => af [] Hf H (Fr.refl s) Reps.nil
variable {es : List Expr} {fs : En → Oc (List D)}
theorem tD_bindL {K : PySem.W.Frag} {mg : Str → Option Value} {Hf H : Hp} {σ : L2.St} {env : En} {f : En → Oc D} {u : D → Oc (List D)} {Q : List V → Hp → Prop} {R : VK} (s : Same Hf H) (r : EnR K mg Hf env σ) (h : AfL K mg E Hf H σ Q ((f env).bind u))
    (k : ∀ d v Hf' H', f env = .ok d → Fr Hf H Hf' H' → Rep K mg Hf' d v → AfL K mg E Hf' H' σ Q (u d) → R v H') : tD K mg E f σ H R := by
  refine ⟨Hf, env, s, r, ?_⟩
  cases q : f env with
  | un => rw [q] at h; exact h
  | er x => rw [q] at h; exact h
  | ok d => rw [q] at h; exact fun v Hf' H' fr rv => k d v Hf' H' q fr rv (AfL.tr fr h)
theorem tDL_bind {K : PySem.W.Frag} {mg : Str → Option Value} {Hf H : Hp} {σ : L2.St} {env : En} {f : En → Oc (List D)} {u : List D → Oc D} {Q : VK} {R : List V → Hp → Prop} (s : Same Hf H) (r : EnR K mg Hf env σ) (h : Af K mg E Hf H σ Q ((f env).bind u))
    (k : ∀ d v Hf' H', f env = .ok d → Fr Hf H Hf' H' → Reps K mg Hf' d v → Af K mg E Hf' H' σ Q (u d) → R v H') : tDL K mg E f σ H R := by
  refine ⟨Hf, env, s, r, ?_⟩
  cases q : f env with
  | un => rw [q] at h; exact h
  | er x => rw [q] at h; exact h
  | ok d => rw [q] at h; exact fun v Hf' H' fr rv => k d v Hf' H' q fr rv (Af.tr fr h)
theorem tDL_bindL {K : PySem.W.Frag} {mg : Str → Option Value} {Hf H : Hp} {σ : L2.St} {env : En} {f : En → Oc (List D)} {u : List D → Oc (List D)} {Q : List V → Hp → Prop} {R : List V → Hp → Prop} (s : Same Hf H) (r : EnR K mg Hf env σ) (h : AfL K mg E Hf H σ Q ((f env).bind u))
    (k : ∀ d v Hf' H', f env = .ok d → Fr Hf H Hf' H' → Reps K mg Hf' d v → AfL K mg E Hf' H' σ Q (u d) → R v H') : tDL K mg E f σ H R := by
  refine ⟨Hf, env, s, r, ?_⟩
  cases q : f env with
  | un => rw [q] at h; exact h
  | er x => rw [q] at h; exact h
  | ok d => rw [q] at h; exact fun v Hf' H' fr rv => k d v Hf' H' q fr rv (AfL.tr fr h)
theorem pad_cons (ha : PEd X E a fa) (hr : PAd X E es fs) (hs : starEach (a :: es) X.env = (false, eval a X.env) :: starEach es X.env := by rfl) : PAd X E (a :: es) (fun env => (fa env).bind fun x => (fs env).bind fun xs => .ok (x :: xs)) :=
  pa_imp (pa_cons ha hr hs) fun σ H Q ⟨Hf, env, s, r, af⟩ => by
    show tD X.K X.mg E fa σ H fun x H1 => tDL X.K X.mg E fs σ H1 fun xs H2 => Q (x :: xs) H2
    refine tD_bindL s r af fun d v Hf1 H1 e1 f1 r1 a1 => tDL_bindL f1.fh (r.mono f1.ff) a1 fun ds vs Hf2 H2 e2 f2 r2 a2 => ?_
    exact a2 (v :: vs) Hf2 H2 (Fr.refl f2.fh) (Reps.cons (Rep.mono f2.ff _ _ r1) r2)
/-! ### displays -/
theorem rep_tup {K : PySem.W.Frag} {mg : Str → Option Value} {Hf : Hp} {p : Addr} {l : List D} {xs : List V} (h : Hf p = some (.tup xs)) (r : Reps K mg Hf l xs) : Rep K mg Hf (.tup l) (.ref p) := by
  unfold Rep; exact ⟨p, xs, rfl, SqT.of h, r⟩
theorem rep_lst {K : PySem.W.Frag} {mg : Str → Option Value} {Hf : Hp} {p : Addr} {l : List D} {xs : List V} (h : Hf p = some (.lst xs)) (r : Reps K mg Hf l xs) : Rep K mg Hf (.lst l) (.ref p) := by
  unfold Rep; exact ⟨p, xs, rfl, h, r⟩
theorem upd_mono {H : Hp} {p : Addr} {o : HO} (h : H p = none) : Same H (upd H p o) := fun b x e => by rw [upd_ne (ne_of_none e h)]; exact e
theorem ped_tup {x1} (ha : PAd X E es fs) : PEd X E (.Tuple es x1 pos) (fun env => (fs env).bind fun xs => if xs.length ≤ 1000000 then .ok (.tup xs) else .un) :=
  pe_imp (pe_tup ha) fun σ H Q ⟨Hf, env, s, r, af⟩ => by
    show tDL X.K X.mg E fs σ H fun xs H1 => xs.length ≤ sizeLine ∧ ∀ p, H1 p = none → Q (.ref p) (upd H1 p (.tup xs))
    refine tDL_bind s r af fun d v Hf' H' e fr rv h => ?_
    by_cases hl : d.length ≤ 1000000
    · rw [if_pos hl] at h
      refine ⟨by rw [rv.len, sizeLine_eq]; omega, fun p hp => ?_⟩
      exact h (.ref p) _ _ (Fr.new fr.fh hp) (rep_tup upd_same (Reps.mono (upd_mono (fr.fh.free hp)) _ _ rv))
    · rw [if_neg hl] at h; exact h.elim
/-- a new list -/
theorem pnd_lst (ha : PAd X E es fs) : PNd X E (.List es pos) (fun env => (fs env).bind fun xs => if xs.length ≤ 1000000 then .ok xs else .un) :=
  pe_imp (pe_lst ha) fun σ H Q ⟨Hf, env, s, r, af⟩ => by
    show tDL X.K X.mg E fs σ H fun xs H1 => xs.length ≤ sizeLine ∧ ∀ p, H1 p = none → Q (.ref p) (upd H1 p (.lst xs))
    refine ⟨Hf, env, s, r, ?_⟩
    revert af
    dsimp only
    cases fs env with
    | un => exact fun h => h
    | er x => exact fun h => h
    | ok d =>
      dsimp only [Oc.bind_ok]
      intro h v Hf' H' fr rv
      by_cases hl : d.length ≤ 1000000
      · rw [if_pos hl] at h
        refine ⟨by rw [rv.len, sizeLine_eq]; omega, fun p hp => ?_⟩
        refine h p v Hf' _ ⟨fr.ff, fr.hh.trans (upd_mono hp), fr.fh.trans (upd_mono hp), fr.nw⟩ (fr.hh.free hp) (fr.fh.free hp) upd_same rv
      · rw [if_neg hl] at h; exact h.elim
/-- a new list as a value -/
theorem ped_new {fl : En → Oc (List D)} (h : PNd X E a fl) : PEd X E a (fun env => (fl env).bind fun xs => .ok (.lst xs)) :=
  pe_imp h fun σ H Q ⟨Hf, env, s, r, af⟩ => by
    refine ⟨Hf, env, s, r, ?_⟩
    revert af
    dsimp only
    cases fl env with
    | un => exact fun h => h
    | er x => exact fun h => h
    | ok d =>
      intro h p xs Hf' H' fr n1 n2 hp rv
      have u := upd_mono (o := .lst xs) n2
      refine h (.ref p) (upd Hf' p (.lst xs)) H' ⟨fr.ff.trans u, fr.hh, fun b o e => ?_, fun b q1 q2 => ?_⟩ (rep_lst upd_same (Reps.mono u _ _ rv))
      · by_cases q : b = p
        · rw [q, upd_same] at e; rw [q, hp]; exact e
        · rw [upd_ne q] at e; exact fr.fh _ _ e
      · by_cases q : b = p
        · rw [q]; exact n1
        · rw [upd_ne q] at q2; exact fr.nw b q1 q2
end
end Sem

namespace Sem
open PySem PySem.Spec L2
/-! ### arithmetic -/
def addD : D → D → Option D
  | .int i, .int j => some (.int (i + j))
  | .str a, .str b => if a.length + b.length ≤ sizeLine then some (.str (a ++ b)) else none
  | .lst a, .lst b => if a.length + b.length ≤ 1000000 then some (.lst (a ++ b)) else none
  | .tup a, .tup b => if a ≠ [] ∧ b ≠ [] ∧ a.length + b.length ≤ 1000000 then some (.tup (a ++ b)) else none
  | _, _ => none
def subD : D → D → Option D
  | .int i, .int j => some (.int (i - j))
  | _, _ => none
def MulB (i j : Int) : Prop := i.natAbs.log2 + j.natAbs.log2 < 1000000
instance {i j : Int} : Decidable (MulB i j) := inferInstanceAs (Decidable (_ < _))
def mulD : D → D → Option D
  | .int i, .int j => if MulB i j then some (.int (i * j)) else none
  | _, _ => none
def DvB (j : Int) : Prop := 0 < j ∧ j.natAbs.log2 < 9000
instance {j : Int} : Decidable (DvB j) := inferInstanceAs (Decidable (_ ∧ _))
def fdivD : D → D → Option D
  | .int i, .int j => if DvB j then some (.int (i / j)) else none
  | _, _ => none
def modD : D → D → Option D
  | .int i, .int j => if 0 < j then some (.int (i % j)) else none
  | _, _ => none
def powD : D → D → Option D
  | .int i, .int j => if 0 ≤ j ∧ j ≤ 1000000 ∧ i.natAbs < 2 ^ 64 then some (.int (i ^ j.toNat)) else none
  | _, _ => none
def negD : D → Option D
  | .int i => some (.int (-i))
  | _ => none
def ltD : D → D → Option D
  | .int i, .int j => some (.bl (decide (i < j)))
  | _, _ => none
def leD : D → D → Option D
  | .int i, .int j => some (.bl (decide (i ≤ j)))
  | _, _ => none
def gtD : D → D → Option D
  | .int i, .int j => some (.bl (decide (j < i)))
  | _, _ => none
def geD : D → D → Option D
  | .int i, .int j => some (.bl (decide (j ≤ i)))
  | _, _ => none
/-! ### == upon data -/
mutual
def toPy : D → PyData
  | .non => .none
  | .bl b => .bool b
  | .int i => .int i
  | .str s => .str s
  | .tup l => .tuple (toPys l)
  | .lst l => .list (toPys l)
  | .scr l => .list (l.map PyData.int)
  | .ty _ => .dict []
  | .cls _ => .dict []
  | .hnd _ => .dict []
  | .obj _ _ _ => .dict []
def toPys : List D → List PyData
  | [] => []
  | d :: l => toPy d :: toPys l
end
/-- == of two scalars -/
def eqS : D → D → Option Bool
  | .non, .non => some true
  | .non, .int _ => some false | .int _, .non => some false
  | .non, .bl _ => some false | .bl _, .non => some false
  | .non, .str _ => some false | .str _, .non => some false
  | .int i, .int j => some (decide (i = j))
  | .bl i, .bl j => some (decide (i = j))
  | .str i, .str j => some (decide (i = j))
  | .int _, .str _ => some false | .str _, .int _ => some false
  | .bl _, .str _ => some false | .str _, .bl _ => some false
  | _, _ => none
/-- == of two values told here, with no objects of own classes within -/
def eqP (a b : D) : Option Bool := if SeqAt.shaped (toPy a) = true ∧ SeqAt.shaped (toPy b) = true then some (PyData.eqv (toPy a) (toPy b)) else none
def eqvD (a b : D) : Option Bool := match eqS a b with
  | some k => some k
  | none => eqP a b
def eqD (a b : D) : Option D := (eqvD a b).map .bl
def neD (a b : D) : Option D := (eqvD a b).map fun k => .bl (!k)
def isNon : D → Bool
  | .non => true
  | _ => false
def isD : D → D → Option D
  | .bl a, .bl b => some (.bl (decide (a = b)))
  | d, .non => some (.bl (isNon d))
  | _, _ => none
def isNotD : D → D → Option D
  | .bl a, .bl b => some (.bl (!decide (a = b)))
  | d, .non => some (.bl (!isNon d))
  | _, _ => none
/-- flat values -/
def flatD : D → Option V
  | .non => some .non
  | .bl b => some (.bl b)
  | .int i => some (.int i)
  | .str s => some (.str s)
  | _ => none
def flatsD : List D → Option (List V)
  | [] => some []
  | d :: l => (flatD d).bind fun v => (flatsD l).bind fun r => some (v :: r)
def memD : D → D → Option Bool
  | d, .tup l => (flatD d).bind fun v => (flatsD l).bind fun vs => some (inV v vs)
  | d, .lst l => (flatD d).bind fun v => (flatsD l).bind fun vs => some (inV v vs)
  | _, _ => none
def inD (a b : D) : Option D := (memD a b).map .bl
def notInD (a b : D) : Option D := (memD a b).map fun k => .bl (!k)
def ixD : D → D → Option D
  | .tup l, .int i => atI l i
  | .lst l, .int i => atI l i
  | .scr l, .int i => (atI l i).map .int
  | .str z, .int i => if z.length ≤ sizeLine then (atI z.cps.toList i).map fun c => .str ⟨#[c]⟩ else none
  | _, _ => none
section
variable {X : Cx}
theorem r2_int {K : PySem.W.Frag} {mg : Str → Option Value} {g : D → D → Option D} {C : Int → Int → Prop} {h : Int → Int → V} (hg : ∀ d1 d2 d, g d1 d2 = some d → ∃ i j, d1 = .int i ∧ d2 = .int j ∧ C i j ∧ ∀ Hf, Rep K mg Hf d (h i j)) :
    ∀ x y H Q, r2 K mg g x y H Q → rI C h x y H Q := fun x y H Q ⟨Hf, d1, d2, d, s, q1, q2, e, k⟩ => by
  obtain ⟨i, j, rfl, rfl, c, r⟩ := hg _ _ _ e
  exact ⟨i, j, rep_int q1, rep_int q2, c, k _ Hf H (Fr.refl s) (r Hf)⟩
theorem r2_int0 {K : PySem.W.Frag} {mg : Str → Option Value} {g : D → D → Option D} {h : Int → Int → V} (hg : ∀ d1 d2 d, g d1 d2 = some d → ∃ i j, d1 = .int i ∧ d2 = .int j ∧ ∀ Hf, Rep K mg Hf d (h i j)) :
    ∀ x y H Q, r2 K mg g x y H Q → rI0 h x y H Q := fun x y H Q ⟨Hf, d1, d2, d, s, q1, q2, e, k⟩ => by
  obtain ⟨i, j, rfl, rfl, r⟩ := hg _ _ _ e
  exact ⟨i, j, rep_int q1, rep_int q2, k _ Hf H (Fr.refl s) (r Hf)⟩
theorem opd_sub : OpD X (binaryOp .Sub) subD := OpR.imp op_sub (r2_int0 fun d1 d2 d e => by
  unfold subD at e; split at e
  · cases e; exact ⟨_, _, rfl, rfl, fun _ => int_rep⟩
  · cases e)
theorem opd_mul : OpD X (binaryOp .Mult) mulD := OpR.imp op_mulW (r2_int fun d1 d2 d e => by
  unfold mulD at e; split at e
  · split at e
    · rename_i h; cases e; exact ⟨_, _, rfl, rfl, h, fun _ => int_rep⟩
    · cases e
  · cases e)
theorem opd_fdiv : OpD X (binaryOp .FloorDiv) fdivD := OpR.imp op_fdivW (r2_int fun d1 d2 d e => by
  unfold fdivD at e; split at e
  · split at e
    · rename_i h; cases e; exact ⟨_, _, rfl, rfl, h, fun _ => int_rep⟩
    · cases e
  · cases e)
theorem opd_mod : OpD X (binaryOp .Mod) modD := OpR.imp op_mod (r2_int fun d1 d2 d e => by
  unfold modD at e; split at e
  · split at e
    · rename_i h; cases e; exact ⟨_, _, rfl, rfl, h, fun _ => int_rep⟩
    · cases e
  · cases e)
theorem opd_pow : OpD X (binaryOp .Pow) powD := OpR.imp op_pow (r2_int fun d1 d2 d e => by
  unfold powD at e; split at e
  · split at e
    · rename_i h; cases e; exact ⟨_, _, rfl, rfl, h, fun _ => int_rep⟩
    · cases e
  · cases e)
theorem opd_lt : OpD X (compareOp .Lt) ltD := OpR.imp op_lt (r2_int0 fun d1 d2 d e => by
  unfold ltD at e; split at e
  · cases e; exact ⟨_, _, rfl, rfl, fun _ => bl_rep⟩
  · cases e)
theorem opd_le : OpD X (compareOp .LtE) leD := OpR.imp op_le (r2_int0 fun d1 d2 d e => by
  unfold leD at e; split at e
  · cases e; exact ⟨_, _, rfl, rfl, fun _ => bl_rep⟩
  · cases e)
theorem opd_gt : OpD X (compareOp .Gt) gtD := OpR.imp op_gt (r2_int0 fun d1 d2 d e => by
  unfold gtD at e; split at e
  · cases e; exact ⟨_, _, rfl, rfl, fun _ => bl_rep⟩
  · cases e)
theorem opd_ge : OpD X (compareOp .GtE) geD := OpR.imp op_ge (r2_int0 fun d1 d2 d e => by
  unfold geD at e; split at e
  · cases e; exact ⟨_, _, rfl, rfl, fun _ => bl_rep⟩
  · cases e)
theorem reps_nil_iff {K : PySem.W.Frag} {mg : Str → Option Value} {Hf : Hp} {l : List D} {xs : List V} (h : Reps K mg Hf l xs) : xs = [] ↔ l = [] := by
  have e := h.len
  constructor
  · intro q; rw [q] at e; exact List.length_eq_zero_iff.mp e.symm
  · intro q; rw [q] at e; exact List.length_eq_zero_iff.mp e
theorem opd_add : OpD X (binaryOp .Add) addD := OpR.imp ((op_add.or op_add_str).or (op_cat.or op_catT)) fun x y H Q ⟨Hf, d1, d2, d, s, q1, q2, e, k⟩ => by
  unfold addD at e
  split at e
  · cases e
    exact .inl (.inl ⟨_, _, rep_int q1, rep_int q2, k _ Hf H (Fr.refl s) int_rep⟩)
  · split at e
    · cases e
      exact .inl (.inr ⟨_, _, rep_str q1, rep_str q2, by assumption, k _ Hf H (Fr.refl s) str_rep⟩)
    · cases e
  · rename_i a b
    split at e
    · rename_i hl
      cases e
      have q1 := Rep.mono s _ _ q1
      have q2' := q2
      unfold Rep at q1 q2'
      obtain ⟨p1, xs, rfl, h1, t1⟩ := q1
      obtain ⟨p2, ys, rfl, h2, t2⟩ := q2'
      refine .inr (.inl ⟨p1, p2, xs, ys, rfl, rfl, h1, s _ _ h2, by rw [t1.len, t2.len, sizeLine_eq]; omega, fun p hp => ?_⟩)
      have fr := Fr.new (o := .lst (xs ++ ys)) s hp
      refine k _ _ _ fr (rep_lst upd_same ?_)
      rename_i q1'
      have z : Rep X.K X.mg Hf (.lst a) (.ref p1) := by assumption
      unfold Rep at z
      obtain ⟨p3, zs, e3, h3, t3⟩ := z
      cases e3
      have : zs = xs := by
        have := s _ _ h3
        rw [h1] at this
        cases this
        rfl
      subst this
      exact Reps.mono fr.ff _ _ (t3.append t2)
    · cases e
  · rename_i a b
    split at e
    · rename_i hl
      cases e
      unfold Rep at q1 q2
      obtain ⟨p1, xs, rfl, h1, t1⟩ := q1
      obtain ⟨p2, ys, rfl, h2, t2⟩ := q2
      refine .inr (.inr ⟨p1, p2, xs, ys, rfl, rfl, same_t s h1, same_t s h2, fun z => hl.1 ((reps_nil_iff t1).mp z), by rw [t1.len, t2.len, sizeLine_eq]; omega, ?_⟩)
      refine ⟨fun z => absurd ((reps_nil_iff t2).mp z) hl.2.1, fun _ p hp => ?_⟩
      have fr := Fr.new (o := .tup (xs ++ ys)) s hp
      exact k _ _ _ fr (rep_tup upd_same (Reps.mono fr.ff _ _ (t1.append t2)))
    · cases e
  · cases e
mutual
theorem dp_of {K : PySem.W.Frag} {mg : Str → Option Value} {H : Hp} : ∀ (d : D) (v : V), Rep K mg H d v → (toPy d).canLay0 = true → Dp K H v (toPy d)
  | .non, v, h, _ => by rw [rep_non h]; exact Dp.non
  | .bl b, v, h, _ => by rw [rep_bl h]; exact Dp.bl b
  | .int i, v, h, _ => by rw [rep_int h]; exact Dp.int i
  | .str z, v, h, _ => by rw [rep_str h]; exact Dp.str z
  | .tup l, v, h, c => by
    unfold Rep at h
    obtain ⟨a, xs, rfl, h1, h2⟩ := h
    unfold toPy at c ⊢
    exact Dp.tup h1 (dps_of l xs h2 (by simpa [PyData.canLay0] using c))
  | .lst l, v, h, c => by
    unfold Rep at h
    obtain ⟨a, xs, rfl, h1, h2⟩ := h
    unfold toPy at c ⊢
    exact Dp.lst (SqL.of h1) (dps_of l xs h2 (by simpa [PyData.canLay0] using c))
  | .scr l, v, h, c => by
    unfold Rep at h
    obtain ⟨a, rfl, h1⟩ := h
    unfold toPy
    refine Dp.lst h1 ?_
    clear h1 c
    induction l with
    | nil => exact DpAll.nil
    | cons i l ih => exact DpAll.cons (Dp.int i) ih
  | .ty _, v, h, c => by unfold toPy at c; simp [PyData.canLay0] at c
  | .cls _, v, h, c => by unfold toPy at c; simp [PyData.canLay0] at c
  | .hnd _, v, h, c => by unfold toPy at c; simp [PyData.canLay0] at c
  | .obj _ _ _, v, h, c => by unfold toPy at c; simp [PyData.canLay0] at c
theorem dps_of {K : PySem.W.Frag} {mg : Str → Option Value} {H : Hp} : ∀ (l : List D) (xs : List V), Reps K mg H l xs → PyData.canLayAll0 (toPys l) = true → DpAll K H xs (toPys l)
  | [], xs, h, _ => by unfold Reps at h; rw [h]; exact DpAll.nil
  | d :: l, xs, h, c => by
    unfold Reps at h
    obtain ⟨x, r, rfl, h1, h2⟩ := h
    unfold toPys at c ⊢
    have c' : (toPy d).canLay0 = true ∧ PyData.canLayAll0 (toPys l) = true := by simpa [PyData.canLayAll0] using c
    exact DpAll.cons (dp_of d x h1 c'.1) (dps_of l r h2 c'.2)
end
theorem eqS_use {K : PySem.W.Frag} {mg : Str → Option Value} {Hf : Hp} {d1 d2 : D} {x y : V} {k : Bool} (q1 : Rep K mg Hf d1 x) (q2 : Rep K mg Hf d2 y) (e : eqS d1 d2 = some k) : scal x y = true ∧ decide (x = y) = k := by
  unfold eqS at e
  split at e
  case h_15 => cases e
  all_goals
    unfold Rep at q1 q2
    subst q1 q2
    cases e
    refine ⟨rfl, ?_⟩
    simp
theorem opd_eq (hu : X.A.units + 64 < cLine) : OpD X (compareOp .Eq) eqD := OpR.imp (op_eq.or (op_eqD hu)) fun x y H Q ⟨Hf, d1, d2, d, s, q1, q2, e, k⟩ => by
  unfold eqD eqvD at e
  cases c : eqS d1 d2 with
  | some b =>
    rw [c] at e
    cases e
    obtain ⟨h1, h2⟩ := eqS_use q1 q2 c
    exact .inl ⟨h1, by rw [h2]; exact k _ Hf H (Fr.refl s) bl_rep⟩
  | none =>
    rw [c] at e
    dsimp only at e
    unfold eqP at e
    split at e
    · rename_i h
      cases e
      exact .inr ⟨_, _, dp_of _ _ (Rep.mono s _ _ q1) (SeqAt.canLay_of_shaped h.1), dp_of _ _ (Rep.mono s _ _ q2) (SeqAt.canLay_of_shaped h.2), h.1, h.2, k _ Hf H (Fr.refl s) bl_rep⟩
    · cases e
theorem opd_ne (hu : X.A.units + 64 < cLine) : OpD X (compareOp .NotEq) neD := OpR.imp (op_ne.or (op_neD hu)) fun x y H Q ⟨Hf, d1, d2, d, s, q1, q2, e, k⟩ => by
  unfold neD eqvD at e
  cases c : eqS d1 d2 with
  | some b =>
    rw [c] at e
    cases e
    obtain ⟨h1, h2⟩ := eqS_use q1 q2 c
    exact .inl ⟨h1, by rw [h2]; exact k _ Hf H (Fr.refl s) bl_rep⟩
  | none =>
    rw [c] at e
    dsimp only at e
    unfold eqP at e
    split at e
    · rename_i h
      cases e
      exact .inr ⟨_, _, dp_of _ _ (Rep.mono s _ _ q1) (SeqAt.canLay_of_shaped h.1), dp_of _ _ (Rep.mono s _ _ q2) (SeqAt.canLay_of_shaped h.2), h.1, h.2, k _ Hf H (Fr.refl s) bl_rep⟩
    · cases e
theorem rep_isNon {K : PySem.W.Frag} {mg : Str → Option Value} {Hf : Hp} {d : D} {v : V} (h : Rep K mg Hf d v) : decide (v = .non) = isNon d := by
  cases d <;> unfold Rep at h <;> first
    | (subst h; rfl)
    | (obtain ⟨a, xs, rfl, _⟩ := h; rfl)
    | (obtain ⟨a, C, dx, xs, rfl, _⟩ := h; rfl)
    | (obtain ⟨C, rfl, _⟩ := h; rfl)
    | (obtain ⟨a, rfl, _⟩ := h; rfl)
theorem opd_is : OpD X (compareOp .Is) isD := OpR.imp (op_isBl.or op_isN) fun x y H Q ⟨Hf, d1, d2, d, s, q1, q2, e, k⟩ => by
  unfold isD at e
  split at e
  · cases e; exact .inl ⟨_, _, rep_bl q1, rep_bl q2, k _ Hf H (Fr.refl s) bl_rep⟩
  · cases e; exact .inr ⟨rep_non q2, by rw [rep_isNon q1]; exact k _ Hf H (Fr.refl s) bl_rep⟩
  · cases e
theorem opd_isNot : OpD X (compareOp .IsNot) isNotD := OpR.imp (op_notBl.or op_notN) fun x y H Q ⟨Hf, d1, d2, d, s, q1, q2, e, k⟩ => by
  unfold isNotD at e
  split at e
  · cases e; exact .inl ⟨_, _, rep_bl q1, rep_bl q2, k _ Hf H (Fr.refl s) bl_rep⟩
  · cases e; exact .inr ⟨rep_non q2, by rw [rep_isNon q1]; exact k _ Hf H (Fr.refl s) bl_rep⟩
  · cases e
theorem rep_flat {K : PySem.W.Frag} {mg : Str → Option Value} {Hf : Hp} {d : D} {v w : V} (h : Rep K mg Hf d v) (e : flatD d = some w) : v = w ∧ flatV w = true := by
  cases d <;> simp only [flatD, Option.some.injEq, reduceCtorEq] at e <;> subst e
  · exact ⟨rep_non h, rfl⟩
  · exact ⟨rep_bl h, rfl⟩
  · exact ⟨rep_int h, rfl⟩
  · exact ⟨rep_str h, rfl⟩
theorem reps_flat {K : PySem.W.Frag} {mg : Str → Option Value} {Hf : Hp} : ∀ {l : List D} {xs ws : List V}, Reps K mg Hf l xs → flatsD l = some ws → xs = ws ∧ ws.all flatV = true
  | [], xs, ws, h, e => by
    unfold Reps at h
    cases e
    exact ⟨h, rfl⟩
  | d :: l, xs, ws, h, e => by
    unfold Reps at h
    obtain ⟨x, r, rfl, h1, h2⟩ := h
    unfold flatsD at e
    cases q : flatD d with
    | none => rw [q] at e; cases e
    | some v =>
      rw [q] at e
      cases q2 : flatsD l with
      | none => rw [q2] at e; cases e
      | some vs =>
        rw [q2] at e
        cases e
        obtain ⟨rfl, f1⟩ := rep_flat h1 q
        obtain ⟨rfl, f2⟩ := reps_flat h2 q2
        exact ⟨rfl, by rw [List.all_cons, f1, f2]; rfl⟩
theorem mem_use {K : PySem.W.Frag} {mg : Str → Option Value} {Hf H : Hp} (s : Same Hf H) {d1 d2 : D} {x y : V} {k : Bool} (q1 : Rep K mg Hf d1 x) (q2 : Rep K mg Hf d2 y) (e : memD d1 d2 = some k) :
    ∃ p xs, y = .ref p ∧ (SqL K H p xs ∨ SqT K H p xs) ∧ flatV x = true ∧ xs.all flatV = true ∧ inV x xs = k := by
  unfold memD at e
  split at e
  · rename_i l
    unfold Rep at q2
    obtain ⟨p, xs, rfl, h1, h2⟩ := q2
    cases c1 : flatD d1 with
    | none => rw [c1] at e; cases e
    | some v =>
      rw [c1] at e
      cases c2 : flatsD l with
      | none => rw [c2] at e; cases e
      | some vs =>
        rw [c2] at e
        cases e
        obtain ⟨rfl, f1⟩ := rep_flat q1 c1
        obtain ⟨rfl, f2⟩ := reps_flat h2 c2
        exact ⟨p, _, rfl, .inr (same_t s h1), f1, f2, rfl⟩
  · rename_i l
    unfold Rep at q2
    obtain ⟨p, xs, rfl, h1, h2⟩ := q2
    cases c1 : flatD d1 with
    | none => rw [c1] at e; cases e
    | some v =>
      rw [c1] at e
      cases c2 : flatsD l with
      | none => rw [c2] at e; cases e
      | some vs =>
        rw [c2] at e
        cases e
        obtain ⟨rfl, f1⟩ := rep_flat q1 c1
        obtain ⟨rfl, f2⟩ := reps_flat h2 c2
        exact ⟨p, _, rfl, .inl (SqL.of (s _ _ h1)), f1, f2, rfl⟩
  · cases e
theorem opd_in : OpD X (compareOp .In) inD := OpR.imp op_in_seq fun x y H Q ⟨Hf, d1, d2, d, s, q1, q2, e, k⟩ => by
  unfold inD at e
  cases c : memD d1 d2 with
  | none => rw [c] at e; cases e
  | some b =>
    rw [c] at e
    cases e
    obtain ⟨p, xs, e1, e2, e3, e4, e5⟩ := mem_use s q1 q2 c
    exact ⟨p, xs, e1, e2, e3, e4, by rw [e5]; exact k _ Hf H (Fr.refl s) bl_rep⟩
theorem opd_notIn : OpD X (compareOp .NotIn) notInD := OpR.imp op_notIn_seq fun x y H Q ⟨Hf, d1, d2, d, s, q1, q2, e, k⟩ => by
  unfold notInD at e
  cases c : memD d1 d2 with
  | none => rw [c] at e; cases e
  | some b =>
    rw [c] at e
    cases e
    obtain ⟨p, xs, e1, e2, e3, e4, e5⟩ := mem_use s q1 q2 c
    exact ⟨p, xs, e1, e2, e3, e4, by rw [e5]; exact k _ Hf H (Fr.refl s) bl_rep⟩
variable {E : WX} {pos : Pos} {a b : Expr} {fa fb : En → Oc D}
theorem ix_imp (h : IxR X (rIx X.K)) : IxR X (r2 X.K X.mg ixD) := by
  intro vv sl pins s σ H x y v u Q I rx ry w hs
  refine h vv sl pins s σ H x y v u Q I rx ry ?_ hs
  obtain ⟨Hf, d1, d2, d, s, q1, q2, e, k⟩ := w
  unfold ixD at e
  split at e
  · unfold Rep at q1
    obtain ⟨p, xs, rfl, h1, h2⟩ := q1
    obtain ⟨x, e1, e2⟩ := h2.atI e
    exact .inr (.inl ⟨p, xs, _, x, rfl, rep_int q2, same_t s h1, e1, k _ Hf H (Fr.refl s) e2⟩)
  · unfold Rep at q1
    obtain ⟨p, xs, rfl, h1, h2⟩ := q1
    obtain ⟨x, e1, e2⟩ := h2.atI e
    exact .inl ⟨p, xs, _, x, rfl, rep_int q2, SqL.of (s _ _ h1), e1, k _ Hf H (Fr.refl s) e2⟩
  · rename_i l i
    unfold Rep at q1
    obtain ⟨p, rfl, h1⟩ := q1
    cases c : atI l i with
    | none => rw [c] at e; cases e
    | some j =>
      rw [c] at e
      cases e
      refine .inl ⟨p, _, _, .int j, rfl, rep_int q2, s.seq h1, ?_, k _ Hf H (Fr.refl s) int_rep⟩
      unfold atI at c ⊢
      rw [List.length_map]
      cases c2 : ixN l.length i with
      | none => rw [c2] at c; cases c
      | some m =>
        rw [c2] at c
        show (l.map V.int)[m]? = some (.int j)
        rw [List.getElem?_map, show l[m]? = some j from c]
        rfl
  · rename_i z i
    split at e
    · rename_i hz
      cases c : atI z.cps.toList i with
      | none => rw [c] at e; cases e
      | some j =>
        rw [c] at e
        cases e
        exact .inr (.inr ⟨z, _, j, rep_str q1, rep_int q2, hz, c, k _ Hf H (Fr.refl s) str_rep⟩)
    · cases e
  · cases e
/-- an item -/
theorem ped_ix (ha : PEd X E a fa) (hb : PEd X E b fb) (hs : PlainIx b := by exact fun _ _ => rfl) : PEd X E (.Subscript a b pos) (fun env => (fa env).bind fun x => (fb env).bind fun y => Oc.ofO (ixD x y)) :=
  pe_imp (pe_ix (ix_imp ix_seq) ha hb hs) fun σ H Q w => tOp_imp w
theorem ped_neg (ha : PEd X E a fa) : PEd X E (.UnaryOp .USub a pos) (fun env => (fa env).bind fun x => Oc.ofO (negD x)) :=
  pe_imp (pe_un un_neg ha) fun σ H Q ⟨Hf, env, s, r, af⟩ => by
    show tD X.K X.mg E fa σ H fun x H1 => ∃ i, x = .int i ∧ Q (.int (-i)) H1
    refine tD_bind s r af fun d v Hf' H' e fr rv h => ?_
    cases d with
    | int i => exact ⟨i, rep_int rv, Af.ok_use fr.fh int_rep h⟩
    | _ => exact h.elim
/-! ### two comparisons in a chain -/
variable {c : Expr} {fc : En → Oc D} {g g' : D → D → Option D}
theorem tCh_imp {σ : L2.St} {H : Hp} {Q : VK} (w : tD X.K X.mg E (fun env => (fa env).bind fun x => (fb env).bind fun y => (Oc.ofO (g x y)).bind fun z => (Oc.ofO (asB z)).bind fun k => if k = true then (fc env).bind fun u => Oc.ofO (g' y u) else .ok (.bl false)) σ H Q) :
    tChain (r2 X.K X.mg g) (r2 X.K X.mg g') (tD X.K X.mg E fa) (tD X.K X.mg E fb) (tD X.K X.mg E fc) σ H Q := by
  obtain ⟨Hf, env, s, r, af⟩ := w
  show tD X.K X.mg E fa σ H fun x H1 => tD X.K X.mg E fb σ H1 fun y H2 => r2 X.K X.mg g x y H2 fun z H3 => ∃ k, z = .bl k ∧ (if k = true then tD X.K X.mg E fc σ H3 fun w' H4 => r2 X.K X.mg g' y w' H4 Q else Q (.bl false) H3)
  refine tD_bind s r af fun d v Hf1 H1 e1 f1 r1 a1 => tD_bind f1.fh (r.mono f1.ff) a1 fun d2 v2 Hf2 H2 e2 f2 r2 a2 => ?_
  have rr := (r.mono f1.ff).mono f2.ff
  cases q : g d d2 with
  | none => rw [q] at a2; exact a2.elim
  | some z =>
    rw [q] at a2
    refine ⟨Hf2, d, d2, z, f2.fh, Rep.mono f2.ff _ _ r1, r2, q, fun v3 Hf3 H3 f3 r3 => ?_⟩
    cases z with
    | bl k =>
      refine ⟨k, rep_bl r3, ?_⟩
      have a3 : Af X.K X.mg E Hf3 H3 σ Q (if k = true then (fc env).bind fun u => Oc.ofO (g' d2 u) else .ok (.bl false)) := Af.tr f3 a2
      cases k with
      | true =>
        refine tD_bind f3.fh (rr.mono f3.ff) a3 fun d4 v4 Hf4 H4 e4 f4 r4 a4 => ?_
        cases q4 : g' d2 d4 with
        | none => rw [q4] at a4; exact a4.elim
        | some z4 =>
          rw [q4] at a4
          exact ⟨Hf4, d2, d4, z4, f4.fh, Rep.mono f4.ff _ _ (Rep.mono f3.ff _ _ r2), r4, q4, fun v5 Hf5 H5 f5 r5 => a4 v5 Hf5 H5 f5 r5⟩
      | false => exact Af.ok_use f3.fh bl_rep a3
    | _ => exact a2.elim
theorem ped_chain {op op' : CmpOp} (ho : OpD X (compareOp op) g) (ho' : OpD X (compareOp op') g') (ha : PEd X E a fa) (hb : PEd X E b fb) (hc : PEd X E c fc) (hm : lastMarks [op, op'] [b, c] = false := by rfl) :
    PEd X E (.Compare a [op, op'] [b, c] pos) (fun env => (fa env).bind fun x => (fb env).bind fun y => (Oc.ofO (g x y)).bind fun z => (Oc.ofO (asB z)).bind fun k => if k = true then (fc env).bind fun u => Oc.ofO (g' y u) else .ok (.bl false)) :=
  pe_imp (pe_chain ho ho' ha hb hc hm) fun σ H Q w => tCh_imp w
theorem ptd_chain {op op' : CmpOp} (ho : OpD X (compareOp op) g) (ho' : OpD X (compareOp op') g') (ha : PEd X E a fa) (hb : PEd X E b fb) (hc : PEd X E c fc) (hm : lastMarks [op, op'] [b, c] = false := by rfl) :
    PTd X E (.Compare a [op, op'] [b, c] pos) (fun env => (fa env).bind fun x => (fb env).bind fun y => (Oc.ofO (g x y)).bind fun z => (Oc.ofO (asB z)).bind fun k => if k = true then (fc env).bind fun u => (Oc.ofO (g' y u)).bind fun z2 => Oc.ofO (asB z2) else .ok false) :=
  pt_imp (pt_chain ho ho' ha hb hc hm) fun σ H Q ⟨Hf, env, s, r, af⟩ => by
    refine tCh_imp (Q := fun x H' => ∃ k, x = .bl k ∧ Q k H') ⟨Hf, env, s, r, ?_⟩
    revert af
    dsimp only
    cases fa env with
    | un => exact fun h => h
    | er x => exact fun h => h
    | ok x =>
      cases fb env with
      | un => exact fun h => h
      | er x => exact fun h => h
      | ok y =>
        dsimp only [Oc.bind_ok]
        cases g x y with
        | none => exact fun h => h
        | some z =>
          dsimp only [Oc.bind_ok, Oc.ofO_some]
          cases asB z with
          | none => exact fun h => h
          | some k =>
            cases k with
            | false => exact fun h v Hf' H' f' r' => ⟨false, rep_bl r', h Hf' H' f'⟩
            | true =>
              dsimp only [Oc.bind_ok, Oc.ofO_some]
              rw [if_pos rfl, if_pos rfl]
              cases fc env with
              | un => exact fun h => h
              | er x => exact fun h => h
              | ok u =>
                dsimp only [Oc.bind_ok]
                cases g' y u with
                | none => exact fun h => h
                | some z2 =>
                  dsimp only [Oc.bind_ok, Oc.ofO_some]
                  cases z2 with
                  | bl k2 => exact fun h v Hf' H' f' r' => ⟨k2, rep_bl r', h Hf' H' f'⟩
                  | _ => exact fun h => h.elim
end
end Sem

namespace Sem
open PySem PySem.Spec L2
/-! ### calls of built-ins -/
def rL (K : PySem.W.Frag) (mg : Str → Option Value) (g : List D → Option D) : List V → Hp → VK → Prop := fun vs H Q => ∃ Hf ds d, Same Hf H ∧ Reps K mg Hf ds vs ∧ g ds = some d ∧ ∀ v Hf' H', Fr Hf H Hf' H' → Rep K mg Hf' d v → Q v H'
abbrev CallD (X : Cx) (f : Value) (g : List D → Option D) : Prop := CallR X f (rL X.K X.mg g)
theorem CallR.imp {X : Cx} {f : Value} {r r' : List V → Hp → VK → Prop} (h : CallR X f r) (i : ∀ vs H Q, r' vs H Q → r vs H Q) : CallR X f r' := by
  intro pins s σ H xs us Q I rx w
  exact h pins s σ H xs us Q I rx (i _ _ _ w)
theorem reps1 {K : PySem.W.Frag} {mg : Str → Option Value} {Hf : Hp} {d : D} {vs : List V} (h : Reps K mg Hf [d] vs) : ∃ v, vs = [v] ∧ Rep K mg Hf d v := by
  unfold Reps at h
  obtain ⟨x, r, e, h1, h2⟩ := h
  unfold Reps at h2
  exact ⟨x, by rw [e, h2], h1⟩
theorem reps2 {K : PySem.W.Frag} {mg : Str → Option Value} {Hf : Hp} {d e : D} {vs : List V} (h : Reps K mg Hf [d, e] vs) : ∃ v w, vs = [v, w] ∧ Rep K mg Hf d v ∧ Rep K mg Hf e w := by
  unfold Reps at h
  obtain ⟨x, r, q, h1, h2⟩ := h
  obtain ⟨w, q2, h3⟩ := reps1 h2
  exact ⟨x, w, by rw [q, q2], h1, h3⟩
section
variable {X : Cx} {E : WX} {pos p : Pos} {e : Expr} {es : List Expr} {fs : En → Oc (List D)} {g : List D → Option D} {x : Str}
theorem tCB_imp {σ : L2.St} {H : Hp} {Q : VK} (w : tD X.K X.mg E (fun env => (fs env).bind fun ds => Oc.ofO (g ds)) σ H Q) : tCB (rL X.K X.mg g) (tDL X.K X.mg E fs) σ H Q := by
  obtain ⟨Hf, env, s, r, af⟩ := w
  show tDL X.K X.mg E fs σ H fun vs H1 => rL X.K X.mg g vs H1 Q
  refine tDL_bind s r af fun d v Hf1 H1 e1 f1 r1 a1 => ?_
  cases q : g d with
  | none => rw [q] at a1; exact a1.elim
  | some z =>
    rw [q] at a1
    exact ⟨Hf1, d, z, f1.fh, r1, q, fun v Hf' H' f' r' => a1 v Hf' H' f' r'⟩
theorem ped_callB {id : String} (hc : CallD X (.builtin id) g) (hm : X.mg x = none) (hv : bootBuiltins x = some (.builtin id)) (ha : PAd X E (e :: es) fs) (hg : Gl X x := by rfl) (hn : x ≠ "__name__" := by decide) (hdb : (x == ("__debug__" : Str)) = false := by decide)
    (he : starEach (e :: es) X.env = (false, eval e X.env) :: starEach es X.env := by rfl) (hpl : (backTo pos (starEach es X.env)).any (·.1) = false := by rfl) : PEd X E (.Call (.Name x p) (e :: es) [] pos) (fun env => (fs env).bind fun ds => Oc.ofO (g ds)) :=
  pe_imp (pe_callB hc hg hm hv ha hn hdb he hpl) fun σ H Q w => tCB_imp w
theorem ped_callTy {T : String} (hc : CallD X (.type T) g) (hm : X.mg x = none) (hv : bootBuiltins x = some (.type T)) (ha : PAd X E (e :: es) fs) (hg : Gl X x := by rfl) (hn : x ≠ "__name__" := by decide) (hdb : (x == ("__debug__" : Str)) = false := by decide)
    (he : starEach (e :: es) X.env = (false, eval e X.env) :: starEach es X.env := by rfl) (hpl : (backTo pos (starEach es X.env)).any (·.1) = false := by rfl) : PEd X E (.Call (.Name x p) (e :: es) [] pos) (fun env => (fs env).bind fun ds => Oc.ofO (g ds)) :=
  pe_imp (pe_callTy hc hg hm hv ha hn hdb he hpl) fun σ H Q w => tCB_imp w
theorem ped_callBf {id : String} (hc : CallD X (.builtin id) g) (hm : X.mg x = some (.builtin id)) (ha : PAd X E (e :: es) fs) (hg : Gl X x := by rfl) (hdb : (x == ("__debug__" : Str)) = false := by decide)
    (he : starEach (e :: es) X.env = (false, eval e X.env) :: starEach es X.env := by rfl) (hpl : (backTo pos (starEach es X.env)).any (·.1) = false := by rfl) : PEd X E (.Call (.Name x p) (e :: es) [] pos) (fun env => (fs env).bind fun ds => Oc.ofO (g ds)) :=
  pe_imp (pe_callBfun hc hg hm ha hdb he hpl) fun σ H Q w => tCB_imp w
def lenD : List D → Option D
  | [.tup l] => some (.int (l.length : Int))
  | [.lst l] => some (.int (l.length : Int))
  | [.scr l] => some (.int (l.length : Int))
  | [.str z] => if z.length ≤ sizeLine then some (.int (z.length : Int)) else none
  | _ => none
theorem cd_len : CallD X (.builtin "len") lenD := CallR.imp call_len fun vs H Q ⟨Hf, ds, d, s, r, q, k⟩ => by
  unfold lenD at q
  split at q
  · obtain ⟨v, rfl, t⟩ := reps1 r
    replace r := t
    unfold Rep at r
    obtain ⟨a, xs, rfl, h1, h2⟩ := r
    cases q
    exact ⟨_, xs.length, rfl, .inr ⟨xs, same_t s h1, rfl⟩, by rw [h2.len]; exact k _ Hf H (Fr.refl s) int_rep⟩
  · obtain ⟨v, rfl, t⟩ := reps1 r
    replace r := t
    unfold Rep at r
    obtain ⟨a, xs, rfl, h1, h2⟩ := r
    cases q
    exact ⟨_, xs.length, rfl, .inl ⟨xs, SqL.of (s _ _ h1), rfl⟩, by rw [h2.len]; exact k _ Hf H (Fr.refl s) int_rep⟩
  · obtain ⟨v, rfl, t⟩ := reps1 r
    replace r := t
    unfold Rep at r
    obtain ⟨a, rfl, h1⟩ := r
    cases q
    exact ⟨_, _, rfl, .inl ⟨_, s.seq h1, rfl⟩, by rw [List.length_map]; exact k _ Hf H (Fr.refl s) int_rep⟩
  · obtain ⟨v, rfl, t⟩ := reps1 r
    replace r := t
    split at q
    · rename_i hz
      cases q
      rw [rep_str r]
      exact ⟨_, _, rfl, ⟨hz, rfl⟩, k _ Hf H (Fr.refl s) int_rep⟩
    · cases q
  · cases q
def intD : List D → Option D
  | [.int i] => some (.int i)
  | [.bl b] => some (.int (if b = true then 1 else 0))
  | _ => none
theorem cd_int : CallD X (.type "int") intD := CallR.imp call_int1 fun vs H Q ⟨Hf, ds, d, s, r, q, k⟩ => by
  unfold intD at q
  split at q
  · obtain ⟨v, rfl, t⟩ := reps1 r
    replace r := t
    cases q
    exact .inl ⟨_, by rw [rep_int r], k _ Hf H (Fr.refl s) int_rep⟩
  · obtain ⟨v, rfl, t⟩ := reps1 r
    replace r := t
    cases q
    exact .inr ⟨_, by rw [rep_bl r], k _ Hf H (Fr.refl s) int_rep⟩
  · cases q
def absD : List D → Option D
  | [.int i] => some (.int (i.natAbs : Int))
  | _ => none
theorem cd_abs : CallD X (.builtin "abs") absD := CallR.imp call_abs fun vs H Q ⟨Hf, ds, d, s, r, q, k⟩ => by
  unfold absD at q
  split at q
  · rename_i i
    obtain ⟨v, rfl, t⟩ := reps1 r
    replace r := t
    cases q
    refine ⟨_, by rw [rep_int r], ?_⟩
    have e : (if i < 0 then -i else i) = (i.natAbs : Int) := by split <;> omega
    rw [e]
    exact k _ Hf H (Fr.refl s) int_rep
  · cases q
def minD : List D → Option D
  | [.int i, .int j] => some (.int (min i j))
  | _ => none
def maxD : List D → Option D
  | [.int i, .int j] => some (.int (max i j))
  | _ => none
theorem cd_min (hc : X.calm = true) : CallD X (.builtin "min") minD := CallR.imp (call_min2 hc) fun vs H Q ⟨Hf, ds, d, s, r, q, k⟩ => by
  unfold minD at q
  split at q
  · rename_i i j
    obtain ⟨v, w, rfl, r1, r2⟩ := reps2 r
    cases q
    refine ⟨i, j, by rw [rep_int r1, rep_int r2], ?_⟩
    have e : (if j < i then j else i) = min i j := by split <;> omega
    rw [e]
    exact k _ Hf H (Fr.refl s) int_rep
  · cases q
theorem cd_max (hc : X.calm = true) : CallD X (.builtin "max") maxD := CallR.imp (call_max2 hc) fun vs H Q ⟨Hf, ds, d, s, r, q, k⟩ => by
  unfold maxD at q
  split at q
  · rename_i i j
    obtain ⟨v, w, rfl, r1, r2⟩ := reps2 r
    cases q
    refine ⟨i, j, by rw [rep_int r1, rep_int r2], ?_⟩
    have e : (if j > i then j else i) = max i j := by split <;> omega
    rw [e]
    exact k _ Hf H (Fr.refl s) int_rep
  · cases q
def gcdD : List D → Option D
  | [.int i, .int j] => some (.int ((Nat.gcd i.natAbs j.natAbs : Nat) : Int))
  | _ => none
theorem cd_gcd : CallD X (.builtin "math.gcd") gcdD := CallR.imp cr_gcd fun vs H Q ⟨Hf, ds, d, s, r, q, k⟩ => by
  unfold gcdD at q
  split at q
  · rename_i i j
    obtain ⟨v, w, rfl, r1, r2⟩ := reps2 r
    cases q
    exact ⟨i, j, by rw [rep_int r1, rep_int r2], k _ Hf H (Fr.refl s) int_rep⟩
  · cases q
/-- the built-in type of a value that is no object of an own class -/
def tyN : D → Option String
  | .non => some "NoneType"
  | .bl _ => some "bool"
  | .int _ => some "int"
  | .str _ => some "str"
  | .tup _ => some "tuple"
  | .lst _ => some "list"
  | .scr _ => some "list"
  | _ => none
def isiD : List D → Option D
  | [d, .ty T] => (tyN d).bind fun n => (kitB n T).map .bl
  | _ => none
theorem tyx_of {K : PySem.W.Frag} {mg : Str → Option Value} {Hf H : Hp} (s : Same Hf H) {d : D} {v : V} {n : String} (r : Rep K mg Hf d v) (e : tyN d = some n) : TyX K H v (.type n) := by
  have r := Rep.mono s _ _ r
  cases d with
  | non => cases e; rw [rep_non r]; exact .base .non
  | bl b => cases e; rw [rep_bl r]; exact .base (.bl b)
  | int b => cases e; rw [rep_int r]; exact .base (.int b)
  | str b => cases e; rw [rep_str r]; exact .base (.str b)
  | tup l =>
    cases e
    unfold Rep at r
    obtain ⟨a, xs, rfl, h1, h2⟩ := r
    rcases h1 with (h | ⟨o, h⟩) | ⟨o, its, m, h, hc, _⟩
    · exact .base (.tup h)
    · exact .fTuple h
    · exact .kTuple h hc
  | lst l =>
    cases e
    unfold Rep at r
    obtain ⟨a, xs, rfl, h1, h2⟩ := r
    exact .base (.lst h1)
  | scr l =>
    cases e
    unfold Rep at r
    obtain ⟨a, rfl, h1⟩ := r
    rcases h1 with (h | ⟨o, h⟩) | ⟨o, its, m, h, hc, _⟩
    · exact .base (.lst h)
    · exact .base (.frz h)
    · exact .kList h hc
  | ty _ => cases e
  | hnd _ => cases e
  | cls _ => cases e
  | obj _ _ _ => cases e
theorem cd_isi : CallD X (.builtin "isinstance") isiD := CallR.imp call_isi fun vs H Q ⟨Hf, ds, d, s, r, q, k⟩ => by
  unfold isiD at q
  split at q
  · rename_i d T
    obtain ⟨v, w, rfl, r1, r2⟩ := reps2 r
    cases c1 : tyN d with
    | none => rw [c1] at q; cases q
    | some n =>
      rw [c1] at q
      cases c2 : kitB n T with
      | none => rw [show ((some n).bind fun n => (kitB n T).map D.bl) = (kitB n T).map D.bl from rfl, c2] at q; cases q
      | some b =>
        rw [show ((some n).bind fun n => (kitB n T).map D.bl) = (kitB n T).map D.bl from rfl, c2] at q
        cases q
        unfold Rep at r2
        subst r2
        exact ⟨v, _, _, _, b, rfl, .ty T, tyx_of s r1 c1, kit_ty c2, k _ Hf H (Fr.refl s) bl_rep⟩
  · cases q
/-- list(x): a new list -/
def listD : List D → Option (List D)
  | [.tup l] => some l
  | [.lst l] => some l
  | [.scr l] => some (l.map D.int)
  | _ => none
theorem pnd_list (hm : X.mg "list" = none) (ha : PAd X E (e :: es) fs) (hg : Gl X "list" := by rfl)
    (he : starEach (e :: es) X.env = (false, eval e X.env) :: starEach es X.env := by rfl) (hpl : (backTo pos (starEach es X.env)).any (·.1) = false := by rfl) : PNd X E (.Call (.Name "list" p) (e :: es) [] pos) (fun env => (fs env).bind fun ds => Oc.ofO (listD ds)) :=
  pe_imp (pe_callTy call_list_of hg hm (by decide +kernel) ha (by decide) (by decide) he hpl) fun σ H Q ⟨Hf, env, s, r, af⟩ => by
    show tDL X.K X.mg E fs σ H fun xs H => ∃ p ys, xs = [.ref p] ∧ (SqL X.K H p ys ∨ SqT X.K H p ys) ∧ ∀ l, H l = none → Q (.ref l) (upd H l (.lst ys))
    refine ⟨Hf, env, s, r, ?_⟩
    revert af
    dsimp only
    cases fs env with
    | un => exact fun h => h
    | er x => exact fun h => h
    | ok ds =>
      dsimp only [Oc.bind_ok]
      intro h vs Hf' H' fr rv
      have fin : ∀ {l : List D} {a : Addr} {ys : List V}, listD ds = some l → vs = [.ref a] → (SqL X.K H' a ys ∨ SqT X.K H' a ys) → Reps X.K X.mg Hf' l ys → ∃ p ys, vs = [.ref p] ∧ (SqL X.K H' p ys ∨ SqT X.K H' p ys) ∧ ∀ l, H' l = none → Q (.ref l) (upd H' l (.lst ys)) := by
        intro l a ys e1 e2 e3 e4
        rw [e1] at h
        refine ⟨a, ys, e2, e3, fun p hp => ?_⟩
        exact h p ys Hf' _ ⟨fr.ff, fr.hh.trans (upd_mono hp), fr.fh.trans (upd_mono hp), fr.nw⟩ (fr.hh.free hp) (fr.fh.free hp) upd_same e4
      cases q : listD ds with
      | none => rw [q] at h; exact h.elim
      | some l =>
        have q' := q
        unfold listD at q'
        split at q'
        · obtain ⟨v, rfl, r1⟩ := reps1 rv
          unfold Rep at r1
          obtain ⟨a, xs, rfl, h1, h2⟩ := r1
          cases q'
          exact fin q rfl (.inr (same_t fr.fh h1)) h2
        · obtain ⟨v, rfl, r1⟩ := reps1 rv
          unfold Rep at r1
          obtain ⟨a, xs, rfl, h1, h2⟩ := r1
          cases q'
          exact fin q rfl (.inl (SqL.of (fr.fh _ _ h1))) h2
        · obtain ⟨v, rfl, r1⟩ := reps1 rv
          unfold Rep at r1
          obtain ⟨a, rfl, h1⟩ := r1
          cases q'
          exact fin q rfl (.inl (fr.fh.seq h1)) Reps.of_ints
        · cases q'
/-- tuple(x) -/
def tupleD : List D → Option D
  | [.tup l] => some (.tup l)
  | [.lst l] => some (.tup l)
  | _ => none
theorem cd_tuple : CallD X (.type "tuple") tupleD := CallR.imp call_tuple_of fun vs H Q ⟨Hf, ds, d, s, r, q, k⟩ => by
  unfold tupleD at q
  split at q
  · obtain ⟨v, rfl, t⟩ := reps1 r
    replace r := t
    have r' := r
    unfold Rep at r
    obtain ⟨a, xs, rfl, h1, h2⟩ := r
    cases q
    exact ⟨a, xs, rfl, .inr ⟨same_t s h1, k _ Hf H (Fr.refl s) r'⟩⟩
  · obtain ⟨v, rfl, t⟩ := reps1 r
    replace r := t
    unfold Rep at r
    obtain ⟨a, xs, rfl, h1, h2⟩ := r
    cases q
    refine ⟨a, xs, rfl, .inl ⟨SqL.of (s _ _ h1), fun p hp => ?_⟩⟩
    have fr := Fr.new (o := .tup xs) s hp
    exact k _ _ _ fr (rep_tup upd_same (Reps.mono fr.ff _ _ h2))
  · cases q
/-! ### calls of the program's own defs -/
/-- behind a call -/
def AfC (K : PySem.W.Frag) (mg : Str → Option Value) (Hf H : Hp) (Q : VK) (E : XK) : Oc D → Prop
  | .ok d => ∀ v Hf' H', Fr Hf H Hf' H' → Rep K mg Hf' d v → Q v H'
  | .er x => ∀ cls dd Hf' H', Fr Hf H Hf' H' → RepX K mg Hf' x cls dd → E cls dd H'
  | .un => False
/-- THE PROMISE of a def: what the plain function m says -/
def spD (K : PySem.W.Frag) (mg : Str → Option Value) (n : Nat) (m : List D → Oc D) : Sp := fun vs H Q E => ∃ Hf ds, ds.length = n ∧ Same Hf H ∧ Reps K mg Hf ds vs ∧ AfC K mg Hf H Q E (m ds)
/-- m' says less than m -/
def Less (m' m : List D → Oc D) : Prop := ∀ ds, m' ds ≠ .un → m ds = m' ds
theorem spD.less {K : PySem.W.Frag} {mg : Str → Option Value} {n : Nat} {m m' : List D → Oc D} (h : Less m' m) : ∀ vs H Q E, spD K mg n m' vs H Q E → spD K mg n m vs H Q E := fun vs H Q E ⟨Hf, ds, l, s, r, a⟩ => by
  refine ⟨Hf, ds, l, s, r, ?_⟩
  by_cases e : m' ds = .un
  · rw [e] at a; exact a.elim
  · rw [h ds e]; exact a
variable {m : List D → Oc D} {k n : Nat} {f : Addr} {fd : FuncData} {ps : List Str}
theorem ped_call (F : FnOk X.prog X.w X.K X.mg X.base (L2.CX X.prog X.w) k f fd ps (spD X.K X.mg n m)) (hr : Room k X.A) (hm : X.mg x = some (.ref f)) (hk : PySem.W.keepIn X.K (.ref f) = true) (hb : Binds X.K fd ps []) (tk : Takes X E)
    (ha : PAd X E (e :: es) fs) (hl : (e :: es).length = n := by rfl) (hg : Gl X x := by rfl) (hdb : (x == ("__debug__" : Str)) = false := by decide) (he : starEach (e :: es) X.env = (false, eval e X.env) :: starEach es X.env := by rfl) (hpl : (backTo pos (starEach es X.env)).any (·.1) = false := by rfl) :
    PEd X E (.Call (.Name x p) (e :: es) [] pos) (fun env => (fs env).bind fun ds => if ds.length = n then m ds else .un) :=
  pe_imp (pe_callS (E := WE E) F hr hg hm hk hb (fun σ => passAt tk σ) ha hdb he hpl) fun σ H Q ⟨Hf, env, s, r, af⟩ => by
    show tDL X.K X.mg E fs σ H fun vs H1 => spD X.K X.mg n m vs H1 Q (WE E σ)
    refine tDL_bind s r af fun d v Hf1 H1 e1 f1 r1 a1 => ?_
    by_cases hd : d.length = n
    · rw [if_pos hd] at a1
      refine ⟨Hf1, d, hd, f1.fh, r1, ?_⟩
      cases q : m d with
      | un => rw [q] at a1; exact a1
      | er x => rw [q] at a1; exact a1
      | ok z => rw [q] at a1; exact a1
    · rw [if_neg hd] at a1; exact a1.elim
end
end Sem

namespace Sem
open PySem PySem.Spec L2
/-! ### slots: not set, shared data, a list that this frame alone holds -/
/-- what a frame may hold alone: a list, an instance -/
inductive Ow where
  | lst (l : List D) | ob (c : Str) (ns : List Str) (vs : List D)
def Ow.d : Ow → D
  | .lst l => .lst l
  | .ob c ns vs => .obj c ns vs
inductive Sl where
  | no | sh (d : D) | ow (o : Ow)
abbrev Sl.own (l : List D) : Sl := .ow (.lst l)
abbrev Sl.ob (c : Str) (ns : List Str) (vs : List D) : Sl := .ow (.ob c ns vs)
inductive Out where
  | nx (e : List Sl) | bk (e : List Sl) | ct (e : List Sl) | rt (d : D) | rs (x : D) (e : List Sl) | un
mutual
/-- no list, no instance within -/
def lf : D → Bool
  | .non => true | .bl _ => true | .int _ => true | .str _ => true | .ty _ => true | .cls _ => true | .hnd _ => true
  | .tup l => lfs l
  | .lst _ => false | .scr _ => false
  | .obj _ _ _ => false
def lfs : List D → Bool
  | [] => true
  | d :: l => lf d && lfs l
end
def frz (p : Nat → Bool) : Nat → List Sl → List Sl
  | _, [] => []
  | k, .ow o :: r => (if p k = true then .sh o.d else .ow o) :: frz p (k + 1) r
  | k, s :: r => s :: frz p (k + 1) r
def shv : Sl → Option D
  | .sh d => some d
  | _ => none
def view (p : Nat → Bool) (e : List Sl) : En := (frz p 0 e).map shv
def inL (l : List Nat) (i : Nat) : Bool := l.contains i
def allN (_ : Nat) : Bool := true
theorem frz_len (p : Nat → Bool) : ∀ (e : List Sl) (k : Nat), (frz p k e).length = e.length
  | [], _ => rfl
  | .ow o :: r, k => by unfold frz; rw [List.length_cons, List.length_cons, frz_len p r]
  | .no :: r, k => by unfold frz; rw [List.length_cons, List.length_cons, frz_len p r]
  | .sh d :: r, k => by unfold frz; rw [List.length_cons, List.length_cons, frz_len p r]
/-- how a frozen slot came -/
theorem frz_get (p : Nat → Bool) : ∀ (e : List Sl) (k i : Nat) (s : Sl), (frz p k e)[i]? = some s → (∃ o, e[i]? = some (.ow o) ∧ p (k + i) = true ∧ s = .sh o.d) ∨ (e[i]? = some s ∧ ∀ o, s = .ow o → p (k + i) = false)
  | [], _, _, _, h => by unfold frz at h; simp at h
  | .ow l :: r, k, 0, s, h => by
    unfold frz at h
    have h' := Option.some.inj h
    by_cases q : p k = true
    · rw [if_pos q] at h'
      exact .inl ⟨l, rfl, q, h'.symm⟩
    · rw [if_neg q] at h'
      exact .inr ⟨congrArg some h', fun _ _ => by simpa using q⟩
  | .ow l :: r, k, i + 1, s, h => by
    unfold frz at h
    rw [show k + (i + 1) = (k + 1) + i by omega]
    exact frz_get p r (k + 1) i s h
  | .no :: r, k, 0, s, h => by
    unfold frz at h
    have h' := Option.some.inj h
    exact .inr ⟨congrArg some h', fun l e => by rw [e] at h'; cases h'⟩
  | .no :: r, k, i + 1, s, h => by
    unfold frz at h
    rw [show k + (i + 1) = (k + 1) + i by omega]
    exact frz_get p r (k + 1) i s h
  | .sh d :: r, k, 0, s, h => by
    unfold frz at h
    have h' := Option.some.inj h
    exact .inr ⟨congrArg some h', fun l e => by rw [e] at h'; cases h'⟩
  | .sh d :: r, k, i + 1, s, h => by
    unfold frz at h
    rw [show k + (i + 1) = (k + 1) + i by omega]
    exact frz_get p r (k + 1) i s h
section
variable {K : PySem.W.Frag} {mg : Str → Option Value}
/-- a list or an instance lies there -/
def Lk (x : Option HO) : Prop := (∃ xs, x = some (.lst xs)) ∨ ∃ C dx fs, x = some (.ins C dx fs)
/-- data without lists and instances does not lean on them -/
theorem sqT_drop {Hf Hg : Hp} (h : ∀ b, Hf b = Hg b ∨ Lk (Hf b)) {a : Addr} {xs : List V} (r : SqT K Hf a xs) : SqT K Hg a xs := by
  rcases r with (r | ⟨o, r⟩) | r
  · rcases h a with e | ⟨ys, e⟩ | ⟨_, _, _, e⟩
    · exact .inl (.inl (by rw [← e]; exact r))
    · rw [r] at e; cases e
    · rw [r] at e; cases e
  · rcases h a with e | ⟨ys, e⟩ | ⟨_, _, _, e⟩
    · exact .inl (.inr ⟨o, by rw [← e]; exact r⟩)
    · rw [r] at e; cases e
    · rw [r] at e; cases e
  · exact .inr r
mutual
theorem Rep.drop {Hf Hg : Hp} (h : ∀ b, Hf b = Hg b ∨ Lk (Hf b)) : ∀ (d : D) (v : V), lf d = true → Rep K mg Hf d v → Rep K mg Hg d v
  | .non, _, _, r => r
  | .bl _, _, _, r => r
  | .int _, _, _, r => r
  | .str _, _, _, r => r
  | .ty _, _, _, r => r
  | .cls _, _, _, r => r
  | .hnd _, _, _, r => r
  | .tup l, v, q, r => by
    unfold Rep at r ⊢
    obtain ⟨a, xs, e1, e2, e3⟩ := r
    exact ⟨a, xs, e1, sqT_drop h e2, Reps.drop' h l xs (by unfold lf at q; exact q) e3⟩
  | .lst l, v, q, r => by unfold lf at q; cases q
  | .scr l, v, q, r => by unfold lf at q; cases q
  | .obj c ns vs, v, q, r => by unfold lf at q; cases q
theorem Reps.drop' {Hf Hg : Hp} (h : ∀ b, Hf b = Hg b ∨ Lk (Hf b)) : ∀ (l : List D) (xs : List V), lfs l = true → Reps K mg Hf l xs → Reps K mg Hg l xs
  | [], xs, _, r => by unfold Reps at r ⊢; exact r
  | d :: l, xs, q, r => by
    unfold Reps at r ⊢
    unfold lfs at q
    rw [Bool.and_eq_true] at q
    obtain ⟨x, t, e1, e2, e3⟩ := r
    exact ⟨x, t, e1, Rep.drop h d x q.1 e2, Reps.drop' h l t q.2 e3⟩
end
variable (K mg)
/-- what lies in the heap for a thing of the frame's own -/
def OwR (Hf : Hp) : Ow → HO → Prop
  | .lst l, h => ∃ xs, h = .lst xs ∧ Reps K mg Hf l xs
  | .ob c ns vs, h => ∃ C dx xs, h = .ins C dx (ns.zip xs) ∧ mg c = some (.ref C) ∧ ns.length = vs.length ∧ Reps K mg Hf vs xs
/-- where the frame started: the heap, and the object that is being made (if one is) -/
structure Gh where
  h : Hp
  p : Addr
instance : Coe Gh Hp := ⟨Gh.h⟩
instance : CoeFun Gh (fun _ => Addr → Option HO) := ⟨Gh.h⟩
structure SlOk (H0 : Gh) (Hf0 Hf H : Hp) (env : List Sl) (σ : L2.St) : Prop where
  len : σ.length = env.length
  fr : Fr Hf0 H0 Hf H
  sh : ∀ (i : Nat) (d : D), env[i]? = some (.sh d) → ∃ v, σ[i]? = some (some v) ∧ Rep K mg Hf d v
  ow : ∀ (i : Nat) (o : Ow), env[i]? = some (.ow o) → ∃ p h, σ[i]? = some (some (.ref p)) ∧ Hf p = none ∧ H0 p = none ∧ H p = some h ∧ OwR K mg Hf o h
  ne : ∀ (i j : Nat) (o m : Ow) (p : Addr), i ≠ j → env[i]? = some (.ow o) → env[j]? = some (.ow m) → σ[i]? = some (some (.ref p)) → σ[j]? ≠ some (some (.ref p))
  sf : ∀ c ns vs, env[0]? = some (.ob c ns vs) → σ[0]? = some (some (.ref H0.p))
variable {K mg}
theorem OwR.mono {Hf Hg : Hp} (e : Same Hf Hg) : ∀ {o : Ow} {h : HO}, OwR K mg Hf o h → OwR K mg Hg o h
  | .lst l, h, ⟨xs, q, r⟩ => ⟨xs, q, Reps.mono e _ _ r⟩
  | .ob c ns vs, h, ⟨C, dx, xs, q, m, l, r⟩ => ⟨C, dx, xs, q, m, l, Reps.mono e _ _ r⟩
theorem OwR.lk {Hf : Hp} : ∀ {o : Ow} {h : HO}, OwR K mg Hf o h → Lk (some h)
  | .lst l, h, ⟨xs, q, r⟩ => .inl ⟨xs, congrArg some q⟩
  | .ob c ns vs, h, ⟨C, dx, xs, q, m, l, r⟩ => .inr ⟨C, dx, _, congrArg some q⟩
theorem OwR.rep {Hf : Hp} {p : Addr} : ∀ {o : Ow} {h : HO}, OwR K mg Hf o h → Hf p = some h → Rep K mg Hf o.d (.ref p)
  | .lst l, h, ⟨xs, q, r⟩, e => by rw [q] at e; exact rep_lst e r
  | .ob c ns vs, h, ⟨C, dx, xs, q, m, l, r⟩, e => by
    rw [q] at e
    unfold Ow.d Rep
    exact ⟨p, C, dx, xs, rfl, m, e, l, r⟩
/-- the lists that are frozen -/
def Fz (p : Nat → Bool) (env : List Sl) (σ : L2.St) (b : Addr) : Prop := ∃ (i : Nat) (o : Ow), p i = true ∧ env[i]? = some (.ow o) ∧ σ[i]? = some (some (.ref b))
open Classical in
noncomputable def hz (p : Nat → Bool) (env : List Sl) (σ : L2.St) (Hf H : Hp) : Hp := fun b => if Fz p env σ b then H b else Hf b
open Classical in
noncomputable def unz (p : Nat → Bool) (env : List Sl) (σ : L2.St) (Hf : Hp) : Hp := fun b => if Fz p env σ b then none else Hf b
section
variable {H0 : Gh} {Hf0 Hf H Hf' H' : Hp} {env : List Sl} {σ : L2.St} {p : Nat → Bool}
theorem SlOk.own_at (S : SlOk K mg H0 Hf0 Hf H env σ) {b : Addr} (z : Fz p env σ b) : ∃ h, Hf b = none ∧ H0 b = none ∧ H b = some h ∧ Lk (some h) := by
  obtain ⟨i, l, _, e1, e2⟩ := z
  obtain ⟨q, xs, h1, h2, h3, h4, h5⟩ := S.ow i l e1
  rw [e2] at h1
  cases h1
  exact ⟨xs, h2, h3, h4, h5.lk⟩
theorem SlOk.hz_same (S : SlOk K mg H0 Hf0 Hf H env σ) : Same Hf (hz p env σ Hf H) := fun b o e => by
  unfold hz
  by_cases z : Fz p env σ b
  · obtain ⟨xs, h1, _⟩ := S.own_at z
    rw [h1] at e; cases e
  · rw [if_neg z]; exact e
theorem SlOk.hz_le (S : SlOk K mg H0 Hf0 Hf H env σ) : Same (hz p env σ Hf H) H := fun b o e => by
  unfold hz at e
  by_cases z : Fz p env σ b
  · rw [if_pos z] at e; exact e
  · rw [if_neg z] at e; exact S.fr.fh _ _ e
theorem SlOk.frozen (S : SlOk K mg H0 Hf0 Hf H env σ) (p : Nat → Bool) : SlOk K mg H0 Hf0 (hz p env σ Hf H) H (frz p 0 env) σ := by
  refine ⟨by rw [frz_len]; exact S.len, ⟨S.fr.ff.trans S.hz_same, S.fr.hh, S.hz_le, fun b h1 h2 => ?_⟩, fun i d e => ?_, fun i l e => ?_, fun i j l m q hij e1 e2 e3 => ?_, fun c ns vs e => ?_⟩
  · unfold hz at h2
    by_cases z : Fz p env σ b
    · exact (S.own_at z).choose_spec.2.1
    · rw [if_neg z] at h2; exact S.fr.nw b h1 h2
  · rcases frz_get p env 0 i _ e with ⟨l, h1, h2, h3⟩ | ⟨h1, _⟩
    · obtain ⟨a, xs, g1, g2, g3, g4, g5⟩ := S.ow i l h1
      cases h3
      refine ⟨_, g1, (g5.mono S.hz_same).rep ?_⟩
      unfold hz
      rw [if_pos ⟨i, l, by rw [Nat.zero_add] at h2; exact h2, h1, g1⟩]
      exact g4
    · obtain ⟨v, g1, g2⟩ := S.sh i d h1
      exact ⟨v, g1, Rep.mono S.hz_same _ _ g2⟩
  · rcases frz_get p env 0 i _ e with ⟨l', h1, h2, h3⟩ | ⟨h1, h2⟩
    · cases h3
    · obtain ⟨a, xs, g1, g2, g3, g4, g5⟩ := S.ow i l h1
      refine ⟨a, xs, g1, ?_, g3, g4, g5.mono S.hz_same⟩
      unfold hz
      rw [if_neg ?_]
      · exact g2
      · rintro ⟨j, m, k1, k2, k3⟩
        by_cases hij : i = j
        · subst hij
          have := h2 l rfl
          rw [Nat.zero_add, k1] at this
          cases this
        · exact S.ne i j l m a hij h1 k2 g1 k3
  · rcases frz_get p env 0 i _ e1 with ⟨l', _, _, h3⟩ | ⟨h1, _⟩
    · cases h3
    rcases frz_get p env 0 j _ e2 with ⟨l', _, _, h3⟩ | ⟨h2, _⟩
    · cases h3
    exact S.ne i j l m q hij h1 h2 e3
  · rcases frz_get p env 0 0 _ e with ⟨l', _, _, h3⟩ | ⟨h1, _⟩
    · cases l' <;> cases h3
    exact S.sf c ns vs h1
theorem SlOk.enr (S : SlOk K mg H0 Hf0 Hf H (frz p 0 env) σ) : EnR K mg Hf (view p env) σ := fun i d e => by
  unfold view at e
  rw [List.getElem?_map] at e
  cases q : (frz p 0 env)[i]? with
  | none => rw [q] at e; cases e
  | some s =>
    rw [q] at e
    cases s with
    | sh d' =>
      have e' : d' = d := by simpa [shv] using e
      subst e'
      exact S.sh i d' q
    | no => simp [shv] at e
    | ow l => simp [shv] at e
/-- the heap goes on, the slots stay -/
theorem SlOk.go (S : SlOk K mg H0 Hf0 Hf H env σ) (f : Fr Hf H Hf' H') : SlOk K mg H0 Hf0 Hf' H' env σ :=
  by
  refine ⟨S.len, S.fr.trans f, fun i d e => ?_, fun i l e => ?_, S.ne, S.sf⟩
  · obtain ⟨v, h1, h2⟩ := S.sh i d e
    exact ⟨v, h1, Rep.mono f.ff _ _ h2⟩
  · obtain ⟨q, xs, h1, h2, h3, h4, h5⟩ := S.ow i l e
    refine ⟨q, xs, h1, ?_, h3, f.hh _ _ h4, h5.mono f.ff⟩
    cases z : Hf' q with
    | none => rfl
    | some o =>
      have := f.nw q h2 (by rw [z]; simp)
      rw [this] at h4
      cases h4
/-- .. and what was frozen for a while is the frame's own again -/
theorem SlOk.back (S : SlOk K mg H0 Hf0 Hf H env σ) (f : Fr (hz p env σ Hf H) H Hf' H') : SlOk K mg H0 Hf0 (unz p env σ Hf') H' env σ ∧ (∀ b, Hf' b = unz p env σ Hf' b ∨ Lk (Hf' b)) ∧ Same (unz p env σ Hf') Hf' := by
  have lists : ∀ b, Fz p env σ b → Lk (Hf' b) := fun b z => by
    obtain ⟨xs, h1, h2, h3, h4⟩ := S.own_at z
    rw [f.ff b xs (by unfold hz; rw [if_pos z]; exact h3)]
    exact h4
  have le : Same (unz p env σ Hf') Hf' := fun b o e => by
    unfold unz at e
    by_cases z : Fz p env σ b
    · rw [if_pos z] at e; cases e
    · rw [if_neg z] at e; exact e
  have up : Same Hf (unz p env σ Hf') := fun b o e => by
    unfold unz
    by_cases z : Fz p env σ b
    · obtain ⟨xs, h1, _⟩ := S.own_at z
      rw [h1] at e; cases e
    · rw [if_neg z]; exact f.ff _ _ (S.hz_same _ _ e)
  refine ⟨⟨S.len, ⟨S.fr.ff.trans up, S.fr.hh.trans f.hh, le.trans f.fh, fun b h1 h2 => ?_⟩, fun i d e => ?_, fun i l e => ?_, S.ne, S.sf⟩, fun b => ?_, le⟩
  · have g := (S.frozen p).fr.trans f
    refine g.nw b h1 fun z => h2 ?_
    unfold unz
    by_cases y : Fz p env σ b
    · rw [if_pos y]
    · rw [if_neg y]; exact z
  · obtain ⟨v, h1, h2⟩ := S.sh i d e
    exact ⟨v, h1, Rep.mono up _ _ h2⟩
  · obtain ⟨q, xs, h1, h2, h3, h4, h5⟩ := S.ow i l e
    refine ⟨q, xs, h1, ?_, h3, f.hh _ _ h4, h5.mono up⟩
    unfold unz
    by_cases y : Fz p env σ q
    · rw [if_pos y]
    · rw [if_neg y]
      cases z : Hf' q with
      | none => rfl
      | some o =>
        have hq : hz p env σ Hf H q = none := by unfold hz; rw [if_neg y]; exact h2
        have := f.nw q hq (by rw [z]; simp)
        rw [this] at h4; cases h4
  · unfold unz
    by_cases z : Fz p env σ b
    · exact .inr (lists b z)
    · rw [if_neg z]; exact .inl rfl
theorem set_at {α : Type} {l : List α} {i j : Nat} {a b : α} (h : (l.set i a)[j]? = some b) : (j = i ∧ i < l.length ∧ b = a) ∨ (j ≠ i ∧ l[j]? = some b) := by
  by_cases e : j = i
  · subst e
    by_cases hl : j < l.length
    · rw [List.getElem?_set_self hl] at h
      exact .inl ⟨rfl, hl, (Option.some.inj h).symm⟩
    · rw [List.getElem?_eq_none (by rw [List.length_set]; omega)] at h
      cases h
  · rw [List.getElem?_set_ne (Ne.symm e)] at h
    exact .inr ⟨e, h⟩
/-- a slot takes shared data -/
theorem SlOk.put (S : SlOk K mg H0 Hf0 Hf H env σ) {d : D} {v : V} (r : Rep K mg Hf d v) (i : Nat) : SlOk K mg H0 Hf0 Hf H (env.set i (.sh d)) (σ.set i (some v)) := by
  refine ⟨by rw [List.length_set, List.length_set]; exact S.len, S.fr, fun j e h => ?_, fun j l h => ?_, fun j k l m q hjk h1 h2 h3 h4 => ?_, fun c ns vs e => ?_⟩
  · rcases set_at h with ⟨rfl, hl, e2⟩ | ⟨hj, h'⟩
    · cases e2
      exact ⟨v, List.getElem?_set_self (by rw [S.len]; exact hl), r⟩
    · obtain ⟨w, g1, g2⟩ := S.sh j e h'
      exact ⟨w, by rw [List.getElem?_set_ne (Ne.symm hj)]; exact g1, g2⟩
  · rcases set_at h with ⟨rfl, hl, e2⟩ | ⟨hj, h'⟩
    · cases e2
    · obtain ⟨q, xs, g1, g⟩ := S.ow j l h'
      exact ⟨q, xs, by rw [List.getElem?_set_ne (Ne.symm hj)]; exact g1, g⟩
  · rcases set_at h1 with ⟨_, _, e2⟩ | ⟨hj, h1'⟩
    · cases e2
    rcases set_at h2 with ⟨_, _, e2⟩ | ⟨hk, h2'⟩
    · cases e2
    rw [List.getElem?_set_ne (Ne.symm hj)] at h3
    rw [List.getElem?_set_ne (Ne.symm hk)] at h4
    exact S.ne j k l m q hjk h1' h2' h3 h4
  · rcases set_at e with ⟨_, _, e2⟩ | ⟨hj, h'⟩
    · cases e2
    · rw [List.getElem?_set_ne (Ne.symm hj)]
      exact S.sf c ns vs h'
/-- a slot takes a new thing -/
theorem SlOk.putO (S : SlOk K mg H0 Hf0 Hf H env σ) {l : Ow} {a : Addr} {xs : HO} (h1 : Hf a = none) (h0 : H0 a = none) (h2 : H a = some xs) (r : OwR K mg Hf l xs) (hn : ∀ (j : Nat) (m : Ow), env[j]? = some (.ow m) → σ[j]? ≠ some (some (.ref a))) (i : Nat) (hs : i = 0 → ∀ c ns vs, l ≠ .ob c ns vs) :
    SlOk K mg H0 Hf0 Hf H (env.set i (.ow l)) (σ.set i (some (.ref a))) := by
  refine ⟨by rw [List.length_set, List.length_set]; exact S.len, S.fr, fun j e h => ?_, fun j m h => ?_, fun j k m m' q hjk g1 g2 g3 g4 => ?_, fun c ns vs e => ?_⟩
  · rcases set_at h with ⟨rfl, hl, e2⟩ | ⟨hj, h'⟩
    · cases e2
    · obtain ⟨w, g1, g2⟩ := S.sh j e h'
      exact ⟨w, by rw [List.getElem?_set_ne (Ne.symm hj)]; exact g1, g2⟩
  · rcases set_at h with ⟨rfl, hl, e2⟩ | ⟨hj, h'⟩
    · cases e2
      exact ⟨a, xs, List.getElem?_set_self (by rw [S.len]; exact hl), h1, h0, h2, r⟩
    · obtain ⟨q, ys, g1, g⟩ := S.ow j m h'
      exact ⟨q, ys, by rw [List.getElem?_set_ne (Ne.symm hj)]; exact g1, g⟩
  · rcases set_at g1 with ⟨rfl, hl, e2⟩ | ⟨hj, g1'⟩
    · rcases set_at g2 with ⟨rfl, _, _⟩ | ⟨hk, g2'⟩
      · exact hjk rfl
      · rw [List.getElem?_set_self (by rw [S.len]; exact hl)] at g3
        cases g3
        rw [List.getElem?_set_ne (Ne.symm hk)] at g4
        exact hn k m' g2' g4
    · rcases set_at g2 with ⟨rfl, hl, _⟩ | ⟨hk, g2'⟩
      · rw [List.getElem?_set_self (by rw [S.len]; exact hl)] at g4
        cases g4
        rw [List.getElem?_set_ne (Ne.symm hj)] at g3
        exact hn j m g1' g3
      · rw [List.getElem?_set_ne (Ne.symm hj)] at g3
        rw [List.getElem?_set_ne (Ne.symm hk)] at g4
        exact S.ne j k m m' q hjk g1' g2' g3 g4
  · rcases set_at e with ⟨e1, _, e2⟩ | ⟨hj, h'⟩
    · cases e2
      exact absurd rfl (hs e1.symm c ns vs)
    · rw [List.getElem?_set_ne (Ne.symm hj)]
      exact S.sf c ns vs h'
theorem SlOk.putN (S : SlOk K mg H0 Hf0 Hf H env σ) {l : List D} {a : Addr} {xs : List V} (h1 : Hf a = none) (h0 : H0 a = none) (h2 : H a = some (.lst xs)) (r : Reps K mg Hf l xs) (hn : ∀ (j : Nat) (m : Ow), env[j]? = some (.ow m) → σ[j]? ≠ some (some (.ref a))) (i : Nat) :
    SlOk K mg H0 Hf0 Hf H (env.set i (.own l)) (σ.set i (some (.ref a))) := S.putO (l := .lst l) h1 h0 h2 ⟨xs, rfl, r⟩ hn i fun _ _ _ _ z => by cases z
/-- the frame's own thing is written -/
theorem SlOk.writeO (S : SlOk K mg H0 Hf0 Hf H env σ) {i : Nat} {l l' : Ow} {a : Addr} {xs' : HO} (e : env[i]? = some (.ow l)) (ea : σ[i]? = some (some (.ref a))) (r : OwR K mg Hf l' xs') (hs : ∀ c ns vs, l' = .ob c ns vs → ∃ c2 ns2 vs2, l = .ob c2 ns2 vs2) :
    SlOk K mg H0 Hf0 Hf (upd H a xs') (env.set i (.ow l')) σ := by
  obtain ⟨b, xs, h1, h2, h3, h4, h5⟩ := S.ow i l e
  rw [ea] at h1
  cases h1
  have hi : i < env.length := (List.getElem?_eq_some_iff.mp e).1
  refine ⟨by rw [List.length_set]; exact S.len, ⟨S.fr.ff, fun b o q => ?_, fun b o q => ?_, S.fr.nw⟩, fun j d h => ?_, fun j m h => ?_, fun j k m m' q hjk g1 g2 g3 g4 => ?_, fun c ns vs q => ?_⟩
  · rw [upd_ne (ne_of_none q h3)]; exact S.fr.hh _ _ q
  · rw [upd_ne (ne_of_none q h2)]; exact S.fr.fh _ _ q
  · rcases set_at h with ⟨rfl, hl, e2⟩ | ⟨hj, h'⟩
    · cases e2
    · exact S.sh j d h'
  · rcases set_at h with ⟨rfl, hl, e2⟩ | ⟨hj, h'⟩
    · cases e2
      exact ⟨a, xs', ea, h2, h3, upd_same, r⟩
    · obtain ⟨q, ys, g1, g2, g3, g4, g5⟩ := S.ow j m h'
      refine ⟨q, ys, g1, g2, g3, ?_, g5⟩
      rw [upd_ne]
      · exact g4
      · intro z
        rw [z] at g1
        exact S.ne i j l m a (Ne.symm hj) e h' ea g1
  · have own_j : ∃ m0, env[j]? = some (.ow m0) := by
      rcases set_at g1 with ⟨rfl, _, _⟩ | ⟨_, g⟩
      · exact ⟨l, e⟩
      · exact ⟨m, g⟩
    have own_k : ∃ m0, env[k]? = some (.ow m0) := by
      rcases set_at g2 with ⟨rfl, _, _⟩ | ⟨_, g⟩
      · exact ⟨l, e⟩
      · exact ⟨m', g⟩
    obtain ⟨mj, ej⟩ := own_j
    obtain ⟨mk, ek⟩ := own_k
    exact S.ne j k mj mk q hjk ej ek g3 g4
  · rcases set_at q with ⟨e1, _, e2⟩ | ⟨hj, h'⟩
    · cases e2
      obtain ⟨c2, ns2, vs2, rfl⟩ := hs c ns vs rfl
      exact S.sf c2 ns2 vs2 (by rw [e1]; exact e)
    · exact S.sf c ns vs h'
theorem SlOk.write (S : SlOk K mg H0 Hf0 Hf H env σ) {i : Nat} {l l' : List D} {a : Addr} {xs' : List V} (e : env[i]? = some (.own l)) (ea : σ[i]? = some (some (.ref a))) (r : Reps K mg Hf l' xs') :
    SlOk K mg H0 Hf0 Hf (upd H a (.lst xs')) (env.set i (.own l')) σ := S.writeO (l' := .lst l') e ea ⟨xs', rfl, r⟩ fun _ _ _ z => by cases z
end
end
end Sem

namespace Sem
open PySem PySem.Spec L2
def Out.seq (o : Out) (g : List Sl → Out) : Out := match o with
  | .nx e => g e
  | .bk e => .bk e
  | .ct e => .ct e
  | .rt d => .rt d
  | .rs x e => .rs x e
  | .un => .un
theorem Out.seq_nx (e : List Sl) (g : List Sl → Out) : (Out.nx e).seq g = g e := rfl
theorem Out.seq_bk (e : List Sl) (g : List Sl → Out) : (Out.bk e).seq g = .bk e := rfl
theorem Out.seq_ct (e : List Sl) (g : List Sl → Out) : (Out.ct e).seq g = .ct e := rfl
theorem Out.seq_rt (d : D) (g : List Sl → Out) : (Out.rt d).seq g = .rt d := rfl
theorem Out.seq_rs (x : D) (e : List Sl) (g : List Sl → Out) : (Out.rs x e).seq g = .rs x e := rfl
theorem Out.seq_un (g : List Sl → Out) : (Out.un).seq g = .un := rfl
def exO {α : Type} (e : List Sl) (o : Oc α) (k : α → Out) : Out := match o with
  | .ok a => k a
  | .er x => .rs x e
  | .un => .un
theorem exO_ok {α : Type} (e : List Sl) (a : α) (k : α → Out) : exO e (.ok a) k = k a := rfl
theorem exO_er {α : Type} (e : List Sl) (x : D) (k : α → Out) : exO e (.er x : Oc α) k = .rs x e := rfl
theorem exO_un {α : Type} (e : List Sl) (k : α → Out) : exO e (.un : Oc α) k = .un := rfl
section
variable (K : PySem.W.Frag) (mg : Str → Option Value)
def AfS (E : WX) (H0 : Gh) (Hf0 : Hp) (D' : Ends) : Out → Prop
  | .nx e => ∀ σ' Hf' H', SlOk K mg H0 Hf0 Hf' H' e σ' → D'.nx σ' H'
  | .bk e => ∀ σ' Hf' H', SlOk K mg H0 Hf0 Hf' H' e σ' → D'.bk σ' H'
  | .ct e => ∀ σ' Hf' H', SlOk K mg H0 Hf0 Hf' H' e σ' → D'.ct σ' H'
  | .rt d => ∀ v Hf' H', Fr Hf0 H0 Hf' H' → Rep K mg Hf' d v → D'.rt v H'
  | .rs x e => ∀ cls dd σ' Hf' H', SlOk K mg H0 Hf0 Hf' H' e σ' → RepX K mg Hf' x cls dd → E cls dd σ' H'
  | .un => False
def tS (E : WX) (g : List Sl → Out) : TS := fun D' σ H => ∃ H0 Hf0 Hf env, SlOk K mg H0 Hf0 Hf H env σ ∧ AfS K mg E H0 Hf0 D' (g env)
def tG (T : D → List Sl → Option (List Sl)) : TG := fun v σ H Q => ∃ H0 Hf0 Hf env d env', SlOk K mg H0 Hf0 Hf H env σ ∧ Rep K mg Hf d v ∧ T d env = some env' ∧ ∀ σ', SlOk K mg H0 Hf0 Hf H env' σ' → Q σ' H
def tGs (T : List D → List Sl → Option (List Sl)) : TGs := fun vs σ H Q => ∃ H0 Hf0 Hf env ds env', SlOk K mg H0 Hf0 Hf H env σ ∧ Reps K mg Hf ds vs ∧ T ds env = some env' ∧ ∀ σ', SlOk K mg H0 Hf0 Hf H env' σ' → Q σ' H
/-- what a loop walks: the items l, while Hf stands -/
def ItD (J : It) (Hf : Hp) (l : List D) : Prop := ∀ H, Same Hf H → J.stop l.length H ∧ ∀ (i : Nat) (d : D), l[i]? = some d → J.go i H ∧ ∀ Hg, Same Hf Hg → Same Hg H → ∀ x H', J.yld i H x H' → ∃ Hg', Fr Hg H Hg' H' ∧ Rep K mg Hg' d x
def AfI (E : WX) (Hf H : Hp) (σ : L2.St) (R : It → Hp → Prop) : Oc (List D × Bool) → Prop
  | .ok lk => ∀ J Hf' H', Fr Hf H Hf' H' → ItD K mg J Hf' lk.1 → ((!lk.2 && lfs lk.1) = true → ∀ Hg, Same Hg Hf' → (∀ b, Hf' b = Hg b ∨ Lk (Hf b)) → ItD K mg J Hg lk.1) → R J H'
  | .er x => ∀ cls dd Hf' H', Fr Hf H Hf' H' → RepX K mg Hf' x cls dd → E cls dd σ H'
  | .un => False
def tI (E : WX) (fi : En → Oc (List D × Bool)) : TI := fun σ H R => ∃ Hf env, Same Hf H ∧ EnR K mg Hf env σ ∧ AfI K mg E Hf H σ R (fi env)
end
def PSd (X : Cx) (E : WX) (st : Stmt) (g : List Sl → Out) : Prop := PS X st (tS X.K X.mg E g)
def PSsd (X : Cx) (E : WX) (st : List Stmt) (g : List Sl → Out) : Prop := PSs X st (tS X.K X.mg E g)
def PGd (X : Cx) (tg : Expr) (T : D → List Sl → Option (List Sl)) : Prop := PG X tg (tG X.K X.mg T)
def PGsd (X : Cx) (tg : List Expr) (T : List D → List Sl → Option (List Sl)) : Prop := PGs X tg (tGs X.K X.mg T)
def PId (X : Cx) (E : WX) (tg iter : Expr) (fi : En → Oc (List D × Bool)) : Prop := PI X tg iter (tI X.K X.mg E fi)
theorem pg_imp {X : Cx} {tg : Expr} {t t' : TG} (h : PG X tg t) (i : ∀ v σ H Q, t' v σ H Q → t v σ H Q) : PG X tg t' := ⟨fun pins s σ H v u Q I r w => h.run pins s σ H v u Q I r (i _ _ _ _ w)⟩
theorem pgs_imp {X : Cx} {tg : List Expr} {t t' : TGs} (h : PGs X tg t) (i : ∀ v σ H Q, t' v σ H Q → t v σ H Q) : PGs X tg t' := ⟨fun pins s σ H v u Q I r w => h.run pins s σ H v u Q I r (i _ _ _ _ w)⟩
theorem pi_imp {X : Cx} {tg iter : Expr} {t t' : TI} (h : PI X tg iter t) (i : ∀ σ H R, t' σ H R → t σ H R) : PI X tg iter t' := ⟨fun pins s σ H R I w => h.run pins s σ H R I (i _ _ _ w)⟩
section
variable {K : PySem.W.Frag} {mg : Str → Option Value} {E : WX} {H0 : Gh} {Hf0 Hf H HfI : Hp} {env : List Sl} {σ : L2.St} {D' : Ends}
/-- a nearer base of what is frozen -/
structure Reb (H0 : Gh) (Hf0 HfI : Hp) : Prop where
  ss : Same Hf0 HfI
  nw : ∀ b, Hf0 b = none → HfI b ≠ none → H0 b = none
theorem Reb.refl : Reb H0 Hf0 Hf0 := ⟨Same.refl _, fun b h g => absurd h g⟩
theorem SlOk.reb (S : SlOk K mg H0 Hf0 Hf H env σ) : Reb H0 Hf0 Hf := ⟨S.fr.ff, S.fr.nw⟩
theorem Reb.fr {Hf' H' : Hp} (r : Reb H0 Hf0 HfI) (f : Fr HfI H0 Hf' H') : Fr Hf0 H0 Hf' H' := ⟨r.ss.trans f.ff, f.hh, f.fh, fun b h g => by
  cases z : HfI b with
  | none => exact f.nw b z g
  | some o => exact r.nw b h (by rw [z]; simp)⟩
theorem SlOk.rebase (S : SlOk K mg H0 Hf0 Hf H env σ) (h : Same HfI Hf) (r : Reb H0 Hf0 HfI) : SlOk K mg H0 HfI Hf H env σ :=
  ⟨S.len, ⟨h, S.fr.hh, S.fr.fh, fun b h1 h2 => S.fr.nw b (r.ss.free h1) h2⟩, S.sh, S.ow, S.ne, S.sf⟩
theorem SlOk.unbase {HfI : Hp} (S : SlOk K mg H0 HfI Hf H env σ) (r : Reb H0 Hf0 HfI) : SlOk K mg H0 Hf0 Hf H env σ := ⟨S.len, r.fr S.fr, S.sh, S.ow, S.ne, S.sf⟩
theorem AfS.rebase {o : Out} (h : AfS K mg E H0 Hf0 D' o) (r : Reb H0 Hf0 HfI) : AfS K mg E H0 HfI D' o := by
  cases o with
  | nx e => exact fun σ' Hf' H' S => h σ' Hf' H' (S.unbase r)
  | bk e => exact fun σ' Hf' H' S => h σ' Hf' H' (S.unbase r)
  | ct e => exact fun σ' Hf' H' S => h σ' Hf' H' (S.unbase r)
  | rt d => exact fun v Hf' H' f => h v Hf' H' (r.fr f)
  | rs x e => exact fun cls dd σ' Hf' H' S => h cls dd σ' Hf' H' (S.unbase r)
  | un => exact h
/-- an expression within a statement -/
theorem ev_use {f : En → Oc D} {R : VK} {p : Nat → Bool} {k : D → Out} (S : SlOk K mg H0 Hf0 Hf H env σ) (af : AfS K mg E H0 Hf0 D' (exO (frz p 0 env) (f (view p env)) k))
    (h : ∀ d v Hf' H', f (view p env) = .ok d → Fr (hz p env σ Hf H) H Hf' H' → Rep K mg Hf' d v → AfS K mg E H0 Hf0 D' (k d) → R v H') : tD K mg E f σ H R := by
  have S2 := S.frozen p
  refine ⟨hz p env σ Hf H, view p env, S.hz_le, S2.enr, ?_⟩
  cases q : f (view p env) with
  | un => rw [q] at af; exact af
  | er x => rw [q] at af; exact fun cls dd Hf' H' fr r => af cls dd σ Hf' H' (S2.go fr) r
  | ok d => rw [q] at af; exact fun v Hf' H' fr r => h d v Hf' H' q fr r af
theorem ev_useB {f : En → Oc Bool} {R : Bool → Hp → Prop} {p : Nat → Bool} {k : Bool → Out} (S : SlOk K mg H0 Hf0 Hf H env σ) (af : AfS K mg E H0 Hf0 D' (exO (frz p 0 env) (f (view p env)) k))
    (h : ∀ d Hf' H', f (view p env) = .ok d → Fr (hz p env σ Hf H) H Hf' H' → AfS K mg E H0 Hf0 D' (k d) → R d H') : tDB K mg E f σ H R := by
  have S2 := S.frozen p
  refine ⟨hz p env σ Hf H, view p env, S.hz_le, S2.enr, ?_⟩
  cases q : f (view p env) with
  | un => rw [q] at af; exact af
  | er x => rw [q] at af; exact fun cls dd Hf' H' fr r => af cls dd σ Hf' H' (S2.go fr) r
  | ok d => rw [q] at af; exact fun Hf' H' fr => h d Hf' H' q fr af
theorem ev_useN {f : En → Oc (List D)} {R : VK} {p : Nat → Bool} {k : List D → Out} (S : SlOk K mg H0 Hf0 Hf H env σ) (af : AfS K mg E H0 Hf0 D' (exO (frz p 0 env) (f (view p env)) k))
    (h : ∀ l a xs Hf' H', f (view p env) = .ok l → Fr (hz p env σ Hf H) H Hf' H' → H a = none → Hf' a = none → H' a = some (.lst xs) → Reps K mg Hf' l xs → AfS K mg E H0 Hf0 D' (k l) → R (.ref a) H') : tDN K mg E f σ H R := by
  have S2 := S.frozen p
  refine ⟨hz p env σ Hf H, view p env, S.hz_le, S2.enr, ?_⟩
  cases q : f (view p env) with
  | un => rw [q] at af; exact af
  | er x => rw [q] at af; exact fun cls dd Hf' H' fr r => af cls dd σ Hf' H' (S2.go fr) r
  | ok d => rw [q] at af; exact fun a xs Hf' H' fr n1 n2 hp rv => h d a xs Hf' H' q fr n1 n2 hp rv af
end
section
variable {X : Cx} {E : WX} {pos : Pos} {st : Stmt} {rest : List Stmt} {g g1 g2 : List Sl → Out} {e a : Expr} {f : En → Oc D}
/-! ### blocks -/
theorem psd_nil : PSsd X E [] (fun env => .nx env) := pss_imp pss_nil fun D' σ H ⟨H0, Hf0, Hf, env, S, af⟩ => af σ Hf H S
theorem psd_cons (h1 : PSd X E st g1) (h2 : PSsd X E rest g2) : PSsd X E (st :: rest) (fun env => (g1 env).seq g2) :=
  pss_imp (pss_cons h1 h2) fun D' σ H ⟨H0, Hf0, Hf, env, S, af⟩ => by
    show tS X.K X.mg E g1 { D' with nx := tS X.K X.mg E g2 D' } σ H
    refine ⟨H0, Hf0, Hf, env, S, ?_⟩
    revert af
    dsimp only
    cases g1 env with
    | nx e => exact fun af σ' Hf' H' S' => ⟨H0, Hf0, Hf', e, S', af⟩
    | bk e => exact fun af => af
    | ct e => exact fun af => af
    | rt d => exact fun af => af
    | rs x e => exact fun af => af
    | un => exact fun af => af
theorem psd_one (h : PSd X E st g) : PSsd X E [st] g := pss_one h
theorem psd_pass : PSd X E (.Pass pos) (fun env => .nx env) := ps_imp ps_pass fun D' σ H ⟨H0, Hf0, Hf, env, S, af⟩ => af σ Hf H S
theorem psd_break : PSd X E (.Break pos) (fun env => .bk env) := ps_imp ps_break fun D' σ H ⟨H0, Hf0, Hf, env, S, af⟩ => af σ Hf H S
theorem psd_cont : PSd X E (.Continue pos) (fun env => .ct env) := ps_imp ps_continue fun D' σ H ⟨H0, Hf0, Hf, env, S, af⟩ => af σ Hf H S
/-- a statement that is not told here -/
theorem psd_never : PSd X E st (fun _ => .un) := ps_imp ps_never fun D' σ H ⟨H0, Hf0, Hf, env, S, af⟩ => af
/-! ### return, a value dropped, if -/
theorem Fr.of_sl {K : PySem.W.Frag} {mg : Str → Option Value} {H0 : Gh} {Hf0 Hf H : Hp} {env : List Sl} {σ : L2.St} (S : SlOk K mg H0 Hf0 Hf H env σ) : Fr Hf0 H0 Hf H := S.fr
def sRet (f : En → Oc D) (env : List Sl) : Out := exO (frz allN 0 env) (f (view allN env)) fun d => .rt d
theorem psd_ret (he : PEd X E e f) : PSd X E (.Return (some e) pos) (sRet f) :=
  ps_imp (ps_ret he) fun D' σ H ⟨H0, Hf0, Hf, env, S, af⟩ => by
    show tD X.K X.mg E f σ H D'.rt
    exact ev_use S af fun d v Hf' H' q fr r af' => af' v Hf' H' ((S.frozen allN).fr.trans fr) r
theorem psd_retN : PSd X E (.Return none pos) (fun _ => .rt .non) := ps_imp ps_retN fun D' σ H ⟨H0, Hf0, Hf, env, S, af⟩ => af .non Hf H S.fr non_rep
def sDrop (f : En → Oc D) (env : List Sl) : Out := exO (frz allN 0 env) (f (view allN env)) fun _ => .nx env
theorem psd_drop (he : PEd X E e f) (hs : swapsWith e none pos.line X.env = pure false := by rfl) : PSd X E (.Expr e pos) (sDrop f) :=
  ps_imp (ps_expr he hs) fun D' σ H ⟨H0, Hf0, Hf, env, S, af⟩ => by
    show tD X.K X.mg E f σ H fun _ H1 => D'.nx σ H1
    exact ev_use S af fun d v Hf' H' q fr r af' => af' σ _ H' (S.back fr).1
def sIf (c : En → Oc Bool) (g1 g2 : List Sl → Out) (env : List Sl) : Out := exO (frz allN 0 env) (c (view allN env)) fun k => if k = true then g1 env else g2 env
theorem psd_if {c : Expr} {p q : List Stmt} {tc : En → Oc Bool} (hc : PTd X E c tc) (ha : PSsd X E p g1) (hb : PSsd X E q g2) : PSd X E (.If c p q pos) (sIf tc g1 g2) :=
  ps_imp (ps_if hc ha hb) fun D' σ H ⟨H0, Hf0, Hf, env, S, af⟩ => by
    show tDB X.K X.mg E tc σ H fun b H1 => if b = true then tS X.K X.mg E g1 D' σ H1 else tS X.K X.mg E g2 D' σ H1
    refine ev_useB S af fun d Hf' H' q fr af' => ?_
    have S' := (S.back fr).1
    cases d with
    | true => exact ⟨H0, Hf0, _, env, S', af'⟩
    | false => exact ⟨H0, Hf0, _, env, S', af'⟩
/-! ### targets, assignments -/
theorem pgd_name {i : Nat} {x : Str} (hN : X.N.Nodup) (hi : X.N[i]? = some x := by rfl) (hx : Loc X.env.scope x := by first | exact Or.inl rfl | exact Or.inr rfl) (hf : X.fn x = true ∨ X.env.scope.names.lookup x = some .local := by first | exact .inl rfl | exact .inr rfl | assumption) :
    PGd X (.Name x pos) (fun d env => some (env.set i (.sh d))) :=
  pg_imp (pg_name (i := i) hN hi hx hf) fun v σ H Q ⟨H0, Hf0, Hf, env, d, env', S, r, hT, k⟩ => by
    cases hT
    exact k _ (S.put r i)
theorem pgsd_nil : PGsd X [] (fun ds env => match ds with | [] => some env | _ => none) :=
  pgs_imp pgs_nil fun vs σ H Q ⟨H0, Hf0, Hf, env, ds, env', S, r, hT, k⟩ => by
    cases ds with
    | nil =>
      unfold Reps at r
      cases hT
      exact ⟨r, k _ S⟩
    | cons d l => cases hT
theorem pgsd_cons {tg : Expr} {tgs : List Expr} {T : D → List Sl → Option (List Sl)} {Ts : List D → List Sl → Option (List Sl)} (h1 : PGd X tg T) (h2 : PGsd X tgs Ts) (ht : (assignEach (tg :: tgs) X.env).map (·.2) = assign tg X.env :: (assignEach tgs X.env).map (·.2) := by rfl) :
    PGsd X (tg :: tgs) (fun ds env => match ds with | d :: r => (T d env).bind fun e1 => Ts r e1 | [] => none) :=
  pgs_imp (pgs_cons h1 h2 ht) fun vs σ H Q ⟨H0, Hf0, Hf, env, ds, env', S, r, hT, k⟩ => by
    cases ds with
    | nil => cases hT
    | cons d l =>
      unfold Reps at r
      obtain ⟨x, rr, e1, e2, e3⟩ := r
      dsimp only at hT
      cases q : T d env with
      | none => rw [q] at hT; cases hT
      | some e2' =>
        rw [q] at hT
        exact ⟨x, rr, e1, H0, Hf0, Hf, env, d, e2', S, e2, q, fun σ' S' => ⟨H0, Hf0, Hf, e2', l, env', S', e3, hT, k⟩⟩
theorem pgd_tup {es : List Expr} {kd : Nat} {Ts : List D → List Sl → Option (List Sl)} {n : Nat} (hc : X.calm = true) (h : PGsd X es Ts) (hn : (assignEach es X.env).length = n := by rfl) (hst : (assignEach es X.env).findIdx? (·.1) = none := by rfl) :
    PGd X (.Tuple es kd pos) (fun d env => match d with | .tup ds => if ds.length = n then Ts ds env else none | _ => none) := by
  refine pg_imp (pg_tup hc h hn hst) fun v σ H Q ⟨H0, Hf0, Hf, env, d, env', S, r, hT, k⟩ => ?_
  cases d with
  | tup ds =>
    dsimp only at hT
    by_cases hl : ds.length = n
    · rw [if_pos hl] at hT
      unfold Rep at r
      obtain ⟨p, xs, rfl, h1, h2⟩ := r
      exact ⟨p, xs, rfl, same_t S.fr.fh h1, by rw [h2.len, hl], H0, Hf0, Hf, env, ds, env', S, h2, hT, k⟩
    · rw [if_neg hl] at hT; cases hT
  | _ => cases hT
def ofT : Option (List Sl) → Out
  | some e => .nx e
  | none => .un
theorem ofT_some (e : List Sl) : ofT (some e) = .nx e := rfl
theorem ofT_none : ofT none = .un := rfl
def sAsg (T : D → List Sl → Option (List Sl)) (p : Nat → Bool) (f : En → Oc D) (env : List Sl) : Out := exO (frz p 0 env) (f (view p env)) fun d => ofT (T d (if lf d = true then env else frz p 0 env))
theorem psd_asg (p : Nat → Bool) {tg : Expr} {T : D → List Sl → Option (List Sl)} (he : PEd X E e f) (hg : PGd X tg T) (hs : swapsWithSole [tg] e pos.line X.env = pure false := by rfl) (hw : swappedStores [tg] e X.env = pure none := by rfl) (h1 : (assignEach [tg] X.env).map (·.2) = [assign tg X.env] := by rfl) :
    PSd X E (.Assign [tg] e pos) (sAsg T p f) :=
  ps_imp (ps_asg he hg hs hw h1) fun D' σ H ⟨H0, Hf0, Hf, env, S, af⟩ => by
    show tD X.K X.mg E f σ H fun x H1 => tG X.K X.mg T x σ H1 D'.nx
    refine ev_use S af fun d v Hf' H' q fr r af' => ?_
    by_cases hl : lf d = true
    · rw [if_pos hl] at af'
      obtain ⟨S', dr, _⟩ := S.back fr
      cases z : T d env with
      | none => rw [z] at af'; exact af'.elim
      | some e' =>
        rw [z] at af'
        exact ⟨H0, Hf0, _, env, d, e', S', Rep.drop dr d v hl r, z, fun σ' S'' => af' σ' _ H' S''⟩
    · rw [if_neg hl] at af'
      have S' := (S.frozen p).go fr
      cases z : T d (frz p 0 env) with
      | none => rw [z] at af'; exact af'.elim
      | some e' =>
        rw [z] at af'
        exact ⟨H0, Hf0, _, _, d, e', S', r, z, fun σ' S'' => af' σ' _ H' S''⟩
/-- a name takes a new list, which is then the frame's own -/
def sNew (i : Nat) (p : Nat → Bool) (f : En → Oc (List D)) (env : List Sl) : Out := exO (frz p 0 env) (f (view p env)) fun l => .nx ((if lfs l = true then env else frz p 0 env).set i (.own l))
theorem new_in {D' : Ends} {σ : L2.St} {H : Hp} {i : Nat} {p : Nat → Bool} {fl : En → Oc (List D)} (w : tS X.K X.mg E (sNew i p fl) D' σ H) : tDN X.K X.mg E fl σ H fun x H1 => gName i x σ H1 D'.nx := by
  obtain ⟨H0, Hf0, Hf, env, S, af⟩ := w
  refine ev_useN S af fun l a xs Hf' H' q fr n1 n2 hp r af' => ?_
  have n0 : H0 a = none := S.fr.hh.free n1
  have ne : ∀ (j : Nat) (m : Ow), env[j]? = some (.ow m) → σ[j]? ≠ some (some (.ref a)) := fun j m h1 h2 => by
    obtain ⟨b, ys, g1, _, _, g4, _⟩ := S.ow j m h1
    rw [h2] at g1
    cases g1
    rw [n1] at g4
    cases g4
  by_cases hl : lfs l = true
  · rw [if_pos hl] at af'
    obtain ⟨S', dr, le⟩ := S.back fr
    exact af' _ _ H' (S'.putN (le.free n2) n0 hp (Reps.drop' dr l xs hl r) ne i)
  · rw [if_neg hl] at af'
    have S' := (S.frozen p).go fr
    refine af' _ _ H' (S'.putN n2 n0 hp r (fun j m h1 => ?_) i)
    rcases frz_get p env 0 j _ h1 with ⟨l', _, _, h3⟩ | ⟨h2, _⟩
    · cases h3
    · exact ne j m h2
theorem psd_new (p : Nat → Bool) {i : Nat} {x : Str} {px : Pos} {fl : En → Oc (List D)} (he : PNd X E e fl) (hN : X.N.Nodup) (hi : X.N[i]? = some x := by rfl) (hx : Loc X.env.scope x := by first | exact Or.inl rfl | exact Or.inr rfl) (hs : swapsWith e (some (.Name x px)) pos.line X.env = pure false := by rfl) (hf : X.fn x = true ∨ X.env.scope.names.lookup x = some .local := by first | exact .inl rfl | exact .inr rfl | assumption) :
    PSd X E (.Assign [.Name x px] e pos) (sNew i p fl) :=
  ps_imp (ps_set (i := i) hN hi hx he hs hf) fun D' σ H w => new_in w
/-- x.append(e) -/
def sApp (i : Nat) (p : Nat → Bool) (f : En → Oc D) (env : List Sl) : Out := match env[i]? with
  | some (.ow (.lst l)) => exO (frz p 0 env) (f (view p env)) fun d => if l.length < 1000000 ∧ (lf d = true ∨ p i = false) then .nx ((if lf d = true then env else frz p 0 env).set i (.own (l ++ [d]))) else .un
  | _ => .un
theorem Reps.one {K : PySem.W.Frag} {mg : Str → Option Value} {Hf : Hp} {d : D} {v : V} (h : Rep K mg Hf d v) : Reps K mg Hf [d] [v] := Reps.cons h Reps.nil
theorem frz_own {p : Nat → Bool} {env : List Sl} {i : Nat} {l : Ow} (h : env[i]? = some (.ow l)) (hp : p i = false) : (frz p 0 env)[i]? = some (.ow l) := by
  have hi : i < (frz p 0 env).length := by rw [frz_len]; exact (List.getElem?_eq_some_iff.mp h).1
  have e := List.getElem?_eq_getElem hi
  rcases frz_get p env 0 i _ e with ⟨l', h1, h2, h3⟩ | ⟨h1, _⟩
  · rw [Nat.zero_add, hp] at h2; cases h2
  · rw [e, ← h1, h]
theorem psd_app (p : Nat → Bool) {i : Nat} {x : Str} {px apos cpos : Pos} (he : PEd X E e f) (hi : X.N[i]? = some x := by rfl) (hv : Vis X.env.scope x := by first | exact Or.inl rfl | exact Or.inr (Or.inl rfl) | exact Or.inr (Or.inr rfl))
    (hd : (x == ("__debug__" : Str)) = false := by decide) (hcd : (x == ("__classdict__" : Str)) = false := by decide) (hs : swapsWith (.Call (.Attribute (.Name x px) "append" apos) [e] [] cpos) none pos.line X.env = pure false := by rfl)
    (hb : attributeBase (.Name x px) "append" X.env (eval (.Name x px) X.env) = eval (.Name x px) X.env := by rfl)
    (hfew : ((backTo cpos (starEach [e] X.env)).all (fun x => !x.1) && (backToKw cpos (keywordEach [] X.env)).all (fun x => x.1.isSome)
      && decide (([e] : List Expr).length + ([] : List Keyword).length + (if ([] : List Keyword).isEmpty then 0 else 1) < 30)) = true := by rfl)
    (hl : (apos.endLine == cpos.line) = true := by rfl) (h1 : starEach [e] X.env = (false, eval e X.env) :: starEach [] X.env := by rfl) (h2 : (backTo cpos (starEach [] X.env)).any (·.1) = false := by rfl) :
    PSd X E (.Expr (.Call (.Attribute (.Name x px) "append" apos) [e] [] cpos) pos) (sApp i p f) := by
  refine ps_imp (ps_expr (pe_bm PySem.F.plainAttrs_list PySem.F.slot_list_append PySem.F.type_list_append mt_append (pe_var (i := i) hi hv hd hcd) (pa_cons he pa_nil h1) hb hfew hl h1 h2) hs) fun D' σ H w => ?_
  obtain ⟨H0, Hf0, Hf, env, S, af⟩ := w
  unfold sApp at af
  split at af
  · rename_i l hown
    obtain ⟨a, _, g1, g2, g3, g4, xs, rfl, g5⟩ := S.ow i _ hown
    refine ⟨.ref a, g1, .inl ⟨rfl, xs, SqL.of g4⟩, ?_⟩
    show tD X.K X.mg E f σ H fun v H1 => rAppend (.ref a) [v] H1 fun _ H3 => D'.nx σ H3
    refine ev_use S af fun d v Hf' H' q fr r af' => ?_
    by_cases hc : l.length < 1000000 ∧ (lf d = true ∨ p i = false)
    · rw [if_pos hc] at af'
      have hH' : H' a = some (.lst xs) := fr.hh _ _ g4
      refine ⟨a, xs, v, rfl, rfl, hH', by rw [g5.len, sizeLine_eq]; omega, ?_⟩
      by_cases hlf : lf d = true
      · rw [if_pos hlf] at af'
        obtain ⟨S', dr, le⟩ := S.back fr
        obtain ⟨b, _, k1, k2, k3, k4, ys, rfl, k5⟩ := S'.ow i _ hown
        rw [g1] at k1
        cases k1
        rw [hH'] at k4
        cases k4
        exact af' _ _ _ (S'.write hown g1 (k5.append (Reps.one (Rep.drop dr d v hlf r))))
      · rw [if_neg hlf] at af'
        have S' := (S.frozen p).go fr
        have hown' := frz_own hown (hc.2.resolve_left hlf)
        obtain ⟨b, _, k1, k2, k3, k4, ys, rfl, k5⟩ := S'.ow i _ hown'
        rw [g1] at k1
        cases k1
        rw [hH'] at k4
        cases k4
        exact af' _ _ _ (S'.write hown' g1 (k5.append (Reps.one r)))
    · rw [if_neg hc] at af'; exact af'.elim
  · exact af.elim
/-! ### for -/
def forGo (T : D → List Sl → Option (List Sl)) (body : List Sl → Out) : List D → List Sl → Out
  | [], env => .nx env
  | d :: r, env => match T d env with
    | none => .un
    | some e1 => match body e1 with
      | .nx e => forGo T body r e
      | .ct e => forGo T body r e
      | .bk e => .nx e
      | .rt v => .rt v
      | .rs x e => .rs x e
      | .un => .un
def sFor (T : D → List Sl → Option (List Sl)) (p : Nat → Bool) (fi : En → Oc (List D × Bool)) (body : List Sl → Out) (env : List Sl) : Out :=
  exO (frz p 0 env) (fi (view p env)) fun lk => forGo T body lk.1 (if (!lk.2 && lfs lk.1) = true then env else frz p 0 env)
theorem for_in {J : It} {H0 : Gh} {Hf0 HfI Hf H : Hp} {env : List Sl} {σ : L2.St} {D' : Ends} {T : D → List Sl → Option (List Sl)} {body : List Sl → Out} {l : List D} (S : SlOk X.K X.mg H0 Hf0 Hf H env σ) (hI : Same HfI Hf) (rb : Reb H0 Hf0 HfI) (it : ItD X.K X.mg J HfI l)
    (af : AfS X.K X.mg E H0 Hf0 D' (forGo T body l env)) : ∃ W : Nat → Nat → L2.St → Hp → Prop, (∃ m, W 0 m σ H) ∧ ∀ i m σ H, W i m σ H →
      (J.stop i H ∧ D'.nx σ H) ∨ (J.go i H ∧ ∃ N : L2.St → Hp → Prop, (∀ σ' H', N σ' H' → ∃ m', m' < m ∧ W (i + 1) m' σ' H') ∧ ∀ x H', J.yld i H x H' → tG X.K X.mg T x σ H' fun σ2 H2 => tS X.K X.mg E body { D' with nx := N, ct := N, bk := D'.nx } σ2 H2) := by
  refine ⟨fun i m σ H => i ≤ l.length ∧ m = l.length - i ∧ ∃ Hf env, SlOk X.K X.mg H0 HfI Hf H env σ ∧ AfS X.K X.mg E H0 HfI D' (forGo T body (l.drop i) env), ⟨l.length, Nat.zero_le _, rfl, Hf, env, S.rebase hI rb, by rw [List.drop_zero]; exact af.rebase rb⟩, ?_⟩
  rintro i m σ H ⟨hi, rfl, Hf, env, S, af⟩
  obtain ⟨istop, igo⟩ := it H (S.fr.ff.trans S.fr.fh)
  by_cases hlt : i < l.length
  · obtain ⟨go, yl⟩ := igo i l[i] (List.getElem?_eq_getElem hlt)
    refine .inr ⟨go, _, fun σ' H' n => ⟨l.length - (i + 1), by omega, hlt, rfl, n⟩, fun x H' y => ?_⟩
    obtain ⟨Hf', fr, r⟩ := yl Hf S.fr.ff S.fr.fh x H' y
    rw [List.drop_eq_getElem_cons hlt] at af
    unfold forGo at af
    cases z : T l[i] env with
    | none => rw [z] at af; exact af.elim
    | some e1 =>
      rw [z] at af
      refine ⟨H0, HfI, Hf', env, l[i], e1, S.go fr, r, z, fun σ2 S2 => ⟨H0, HfI, Hf', e1, S2, ?_⟩⟩
      revert af
      dsimp only
      cases body e1 with
      | nx e => exact fun af σ' Hf'' H'' S' => ⟨Hf'', e, S', af⟩
      | ct e => exact fun af σ' Hf'' H'' S' => ⟨Hf'', e, S', af⟩
      | bk e => exact fun af => af
      | rt v => exact fun af => af
      | rs x e => exact fun af => af
      | un => exact fun af => af
  · have e : i = l.length := by omega
    subst e
    refine .inl ⟨istop, ?_⟩
    rw [List.drop_length] at af
    exact af σ Hf H S
theorem psd_for (p : Nat → Bool) {tg iter : Expr} {body : List Stmt} {T : D → List Sl → Option (List Sl)} {fi : En → Oc (List D × Bool)} {gb : List Sl → Out} (hp : PassesOwn (model X.prog X.w) X.A X.env X.xe) (hc : X.calm = true) (hi : PId X E tg iter fi) (hg : PGd X tg T) (hb : PSsd X E body gb)
    (hs : ∀ x, foldedSetIterable iter X.env x = pure x := by intro _; rfl) : PSd X E (.For tg iter body [] pos) (sFor T p fi gb) :=
  ps_imp (ps_for hp hc hi hg hb hs) fun D' σ H ⟨H0, Hf0, Hf, env, S, af⟩ => by
    show tI X.K X.mg E fi σ H fun J H1 => ∃ W : Nat → Nat → L2.St → Hp → Prop, (∃ m, W 0 m σ H1) ∧ ∀ i m σ H, W i m σ H →
      (J.stop i H ∧ D'.nx σ H) ∨ (J.go i H ∧ ∃ N : L2.St → Hp → Prop, (∀ σ' H', N σ' H' → ∃ m', m' < m ∧ W (i + 1) m' σ' H') ∧ ∀ x H', J.yld i H x H' → tG X.K X.mg T x σ H' fun σ2 H2 => tS X.K X.mg E gb { D' with nx := N, ct := N, bk := D'.nx } σ2 H2)
    have S2 := S.frozen p
    refine ⟨hz p env σ Hf H, view p env, S.hz_le, S2.enr, ?_⟩
    unfold sFor at af
    cases q : fi (view p env) with
    | un => rw [q] at af; exact af
    | er x => rw [q] at af; exact fun cls dd Hf' H' fr r => af cls dd σ Hf' H' (S2.go fr) r
    | ok lk =>
      rw [q] at af
      intro J Hf' H' fr it un
      have af' : AfS X.K X.mg E H0 Hf0 D' (forGo T gb lk.1 (if (!lk.2 && lfs lk.1) = true then env else frz p 0 env)) := af
      by_cases hk : (!lk.2 && lfs lk.1) = true
      · rw [if_pos hk] at af'
        obtain ⟨S', dr, le⟩ := S.back fr
        refine for_in S' (Same.refl _) S'.reb (un hk _ le fun b => ?_) af'
        unfold unz
        by_cases z : Fz p env σ b
        · obtain ⟨xs, g1, g2, g3, g4⟩ := S.own_at z
          refine .inr ?_
          unfold hz
          rw [if_pos z, g3]
          exact g4
        · rw [if_neg z]; exact .inl rfl
      · rw [if_neg hk] at af'
        have S' := S2.go fr
        exact for_in S' (Same.refl _) S'.reb it af'
/-! ### what is walked -/
theorem it_of {K : PySem.W.Frag} {mg : Str → Option Value} {J : It} {Hf : Hp} {l : List D} {xs : List V} (r : Reps K mg Hf l xs) (h : ∀ H, Same Hf H → J.stop xs.length H ∧ ∀ (i : Nat) (x : V), xs[i]? = some x → J.go i H ∧ ∀ y H', J.yld i H y H' → H' = H ∧ y = x) : ItD K mg J Hf l := by
  intro H s
  obtain ⟨h1, h2⟩ := h H s
  rw [← r.len]
  refine ⟨h1, fun i d e => ?_⟩
  obtain ⟨x, e1, e2⟩ := r.get e
  obtain ⟨g1, g2⟩ := h2 i x e1
  refine ⟨g1, fun Hg k1 k2 y H' w => ?_⟩
  obtain ⟨rfl, rfl⟩ := g2 y H' w
  exact ⟨Hg, Fr.refl k2, Rep.mono k1 _ _ e2⟩
theorem it_list {K : PySem.W.Frag} {mg : Str → Option Value} {Hf : Hp} {l : List D} {xs : List V} {a : Addr} (r : Reps K mg Hf l xs) (h : SqL K Hf a xs) : ItD K mg (Itl K a) Hf l := it_of r fun H s => ⟨⟨xs, s.seq h, Nat.le_refl _⟩, fun i x e => ⟨⟨xs, x, s.seq h, e⟩, fun y H' w => ⟨w.1, by
  have z := w.2 xs (s.seq h)
  rw [e] at z
  exact (Option.some.inj z).symm⟩⟩⟩
theorem it_tup {K : PySem.W.Frag} {mg : Str → Option Value} {Hf : Hp} {l : List D} {xs : List V} {a : Addr} (r : Reps K mg Hf l xs) (h : SqT K Hf a xs) : ItD K mg (Itt K a) Hf l := it_of r fun H s => ⟨⟨xs, same_t s h, Nat.le_refl _⟩, fun i x e => ⟨⟨xs, x, same_t s h, e⟩, fun y H' w => ⟨w.1, by
  have z := w.2 xs (same_t s h)
  rw [e] at z
  exact (Option.some.inj z).symm⟩⟩⟩
/-- lists and tuples walked, whatever it is -/
def iSeq (K : PySem.W.Frag) (tl : TE) : TI := fun σ H R => tl σ H fun x H1 => ∃ a, x = .ref a ∧ (((∃ xs, SqL K H1 a xs) ∧ R (Itl K a) H1) ∨ ((∃ xs, SqT K H1 a xs) ∧ R (Itt K a) H1))
theorem pi_seq {tg l : Expr} {tl : TE} (hl : PE X l tl) : PI X tg l (iSeq X.K tl) := by
  refine ⟨fun pins s σ H R I h => ?_⟩
  refine thn (hl.run pins s σ H _ I h) fun v s1 ⟨x, H1, I1, r1, q1⟩ => ?_
  obtain ⟨a, e, q1⟩ := q1
  subst e
  cases r1
  rcases q1 with ⟨⟨xs, hq⟩, q⟩ | ⟨⟨xs, hq⟩, q⟩
  · obtain ⟨its, rv, p, hz⟩ := I1.list hq
    refine wpAny_pyIter_list p.isList ?_
    refine ⟨s1.heap.objs.size, [s1.heap.objs.size], _, _, H1, rfl, I1.kept (t' := s1.toks) fun b o e => Heap.get?_push_of_some _ e, turn_list a _, ⟨_, Heap.get?_push_size _ rfl, rfl, rfl⟩, fun b hb => ?_, q⟩
    have e : b = s1.heap.objs.size := by simpa using hb
    subst e
    exact I1.fpOk (Nat.le_refl _) (I1.hok.fresh (Nat.le_refl _))
  · obtain ⟨its, rv, p, hz⟩ := I1.tuple hq
    refine wpAny_pyIter_tuple (show s1.heap.IsTuple a its.toArray from p) ?_
    refine ⟨s1.heap.objs.size, [s1.heap.objs.size], _, _, H1, rfl, I1.kept (t' := s1.toks) fun b o e => Heap.get?_push_of_some _ e, turn_tuple a _, ⟨_, Heap.get?_push_size _ rfl, rfl, rfl⟩, fun b hb => ?_, q⟩
    have e : b = s1.heap.objs.size := by simpa using hb
    subst e
    exact I1.fpOk (Nat.le_refl _) (I1.hok.fresh (Nat.le_refl _))
/-- the items; whether the walked thing itself must be kept -/
def itemsD : D → Option (List D × Bool)
  | .tup l => some (l, false)
  | .lst l => some (l, true)
  | .scr l => some (l.map .int, true)
  | _ => none
theorem pid_seq {tg : Expr} (he : PEd X E e f) : PId X E tg e (fun env => (f env).bind fun d => Oc.ofO (itemsD d)) :=
  pi_imp (pi_seq he) fun σ H R ⟨Hf, env, s, r, af⟩ => by
    show tD X.K X.mg E f σ H fun x H1 => ∃ a, x = .ref a ∧ (((∃ xs, SqL X.K H1 a xs) ∧ R (Itl X.K a) H1) ∨ ((∃ xs, SqT X.K H1 a xs) ∧ R (Itt X.K a) H1))
    refine ⟨Hf, env, s, r, ?_⟩
    revert af
    dsimp only
    cases f env with
    | un => exact fun h => h
    | er x => exact fun h => h
    | ok d =>
      dsimp only [Oc.bind_ok]
      intro h v Hf' H' fr rv
      cases d with
      | tup l =>
        have h' : AfI X.K X.mg E Hf H σ R (.ok (l, false)) := h
        unfold Rep at rv
        obtain ⟨a, xs, rfl, h1, h2⟩ := rv
        refine ⟨a, rfl, .inr ⟨⟨xs, same_t fr.fh h1⟩, h' _ Hf' H' fr (it_tup h2 h1) fun hl Hg le df => ?_⟩⟩
        have df' : ∀ b, Hf' b = Hg b ∨ Lk (Hf' b) := fun b => (df b).imp (fun z => z) fun z => z.imp (fun ⟨ys, z⟩ => ⟨ys, fr.ff _ _ z⟩) fun ⟨C, dx, fs, z⟩ => ⟨C, dx, fs, fr.ff _ _ z⟩
        exact it_tup (Reps.drop' df' l xs (by simpa using hl) h2) (sqT_drop df' h1)
      | lst l =>
        have h' : AfI X.K X.mg E Hf H σ R (.ok (l, true)) := h
        unfold Rep at rv
        obtain ⟨a, xs, rfl, h1, h2⟩ := rv
        exact ⟨a, rfl, .inl ⟨⟨xs, SqL.of (fr.fh _ _ h1)⟩, h' _ Hf' H' fr (it_list h2 (SqL.of h1)) fun hl => by simp at hl⟩⟩
      | scr l =>
        have h' : AfI X.K X.mg E Hf H σ R (.ok (l.map .int, true)) := h
        unfold Rep at rv
        obtain ⟨a, rfl, h1⟩ := rv
        exact ⟨a, rfl, .inl ⟨⟨_, fr.fh.seq h1⟩, h' _ Hf' H' fr (it_list Reps.of_ints h1) fun hl => by simp at hl⟩⟩
      | _ => exact h.elim
/-- a new list walked -/
theorem pid_new {tg : Expr} {fl : En → Oc (List D)} (he : PNd X E e fl) : PId X E tg e (fun env => (fl env).bind fun l => .ok (l, false)) :=
  pi_imp (pi_list he) fun σ H R ⟨Hf, env, s, r, af⟩ => by
    show tDN X.K X.mg E fl σ H fun x H1 => ∃ a, x = .ref a ∧ (∃ xs, SqL X.K H1 a xs) ∧ R (Itl X.K a) H1
    refine ⟨Hf, env, s, r, ?_⟩
    revert af
    dsimp only
    cases fl env with
    | un => exact fun h => h
    | er x => exact fun h => h
    | ok l =>
      intro h a xs Hf' H' fr n1 n2 hp rv
      have h' : AfI X.K X.mg E Hf H σ R (.ok (l, false)) := h
      have u := upd_mono (o := .lst xs) n2
      have fr2 : Fr Hf H (upd Hf' a (.lst xs)) H' := ⟨fr.ff.trans u, fr.hh, fun b o e => by
        by_cases q : b = a
        · rw [q, upd_same] at e; rw [q, hp]; exact e
        · rw [upd_ne q] at e; exact fr.fh _ _ e, fun b q1 q2 => by
        by_cases q : b = a
        · rw [q]; exact n1
        · rw [upd_ne q] at q2; exact fr.nw b q1 q2⟩
      refine ⟨a, rfl, ⟨xs, SqL.of hp⟩, h' _ _ H' fr2 (it_list (Reps.mono u _ _ rv) (SqL.of upd_same)) fun hl Hg le df => ?_⟩
      have df' : ∀ b, upd Hf' a (.lst xs) b = Hg b ∨ Lk (upd Hf' a (.lst xs) b) := fun b => (df b).imp (fun z => z) fun z => z.imp (fun ⟨ys, z⟩ => ⟨ys, fr2.ff _ _ z⟩) fun ⟨C, dx, fs, z⟩ => ⟨C, dx, fs, fr2.ff _ _ z⟩
      refine it_list (Reps.drop' df' l xs (by simpa using hl) (Reps.mono u _ _ rv)) (SqL.of ?_)
      rcases df a with z | ⟨ys, z⟩ | ⟨_, _, _, z⟩
      · rw [← z]; exact upd_same
      · have := s _ _ z
        rw [n1] at this
        cases this
      · have := s _ _ z
        rw [n1] at this
        cases this
/-- range(n), range(a, b) -/
def range1D : D → Option (List D × Bool)
  | .int j => if -(2 ^ 62) ≤ j ∧ j < 2 ^ 62 then some ((List.range j.toNat).map fun (i : Nat) => .int (i : Int), false) else none
  | _ => none
def range2D : D → D → Option (List D × Bool)
  | .int i, .int j => if -(2 ^ 62) ≤ i ∧ i < 2 ^ 62 ∧ -(2 ^ 62) ≤ j ∧ j < 2 ^ 62 then some ((List.range (j - i).toNat).map fun (k : Nat) => .int (i + (k : Int)), false) else none
  | _, _ => none
theorem it_range {K : PySem.W.Frag} {mg : Str → Option Value} {Hf : Hp} {lo : Int} {n : Nat} : ItD K mg (Itr lo n) Hf ((List.range n).map fun (k : Nat) => .int (lo + (k : Int))) := by
  intro H s
  rw [List.length_map, List.length_range]
  refine ⟨Nat.le_refl _, fun i d e => ?_⟩
  rw [List.getElem?_map] at e
  by_cases hi : i < n
  · rw [List.getElem?_range hi] at e
    have e' : D.int (lo + (i : Int)) = d := by simpa using e
    subst e'
    refine ⟨hi, fun Hg k1 k2 x H' w => ?_⟩
    obtain ⟨rfl, rfl⟩ := w
    exact ⟨Hg, Fr.refl k2, int_rep⟩
  · rw [List.getElem?_eq_none (by rw [List.length_range]; omega)] at e
    cases e
variable {fa fb : En → Oc D} {b : Expr} {p : Pos}
theorem range_use {K : PySem.W.Frag} {mg : Str → Option Value} {Hf H Hf' H' : Hp} {σ : L2.St} {R : It → Hp → Prop} {l : List D} {J : It} (h : AfI K mg E Hf H σ R (.ok (l, false))) (fr : Fr Hf H Hf' H') (it : ∀ Hg, ItD K mg J Hg l) : R J H' := h J Hf' H' fr (it Hf') fun _ Hg _ _ => it Hg
theorem pid_range1 {tg : Expr} (hm : X.mg "range" = none) (ha : PEd X E a fa) (hg : Gl X "range" := by rfl) (hs : starEach [a] X.env = [(false, eval a X.env)] := by rfl) (hs0 : starEach [a] X.env = (false, eval a X.env) :: starEach [] X.env := by rfl) :
    PId X E tg (.Call (.Name "range" p) [a] [] pos) (fun env => (fa env).bind fun d => Oc.ofO (range1D d)) :=
  pi_imp (pi_range1 hg hm (pa_cons ha pa_nil hs0) hs) fun σ H R ⟨Hf, env, s, r, af⟩ => by
    show tD X.K X.mg E fa σ H fun v H1 => ∃ j : Int, [v] = [V.int j] ∧ -(2 ^ 62) ≤ j ∧ j < 2 ^ 62 ∧ R (Itr 0 j.toNat) H1
    refine ⟨Hf, env, s, r, ?_⟩
    revert af
    dsimp only
    cases fa env with
    | un => exact fun h => h
    | er x => exact fun h => h
    | ok d =>
      dsimp only [Oc.bind_ok]
      intro h v Hf' H' fr rv
      cases d with
      | int j =>
        dsimp only [range1D] at h
        by_cases hj : -(2 ^ 62) ≤ j ∧ j < 2 ^ 62
        · rw [if_pos hj] at h
          refine ⟨j, by rw [rep_int rv], hj.1, hj.2, range_use h fr fun Hg => ?_⟩
          have z := it_range (K := X.K) (mg := X.mg) (Hf := Hg) (lo := 0) (n := j.toNat)
          simpa using z
        · rw [if_neg hj] at h
          exact h.elim
      | _ => exact h.elim
theorem pid_range2 {tg : Expr} (hm : X.mg "range" = none) (ha : PEd X E a fa) (hb : PEd X E b fb) (hg : Gl X "range" := by rfl) (hs : starEach [a, b] X.env = [(false, eval a X.env), (false, eval b X.env)] := by rfl) (hs2 : starEach [b] X.env = [(false, eval b X.env)] := by rfl)
    (hs0 : starEach [a, b] X.env = (false, eval a X.env) :: starEach [b] X.env := by rfl) (hs1 : starEach [b] X.env = (false, eval b X.env) :: starEach [] X.env := by rfl) :
    PId X E tg (.Call (.Name "range" p) [a, b] [] pos) (fun env => (fa env).bind fun d => (fb env).bind fun e => Oc.ofO (range2D d e)) :=
  pi_imp (pi_range2 hg hm (pa_cons ha (pa_cons hb pa_nil hs1) hs0) hs hs2) fun σ H R ⟨Hf, env, s, r, af⟩ => by
    show tD X.K X.mg E fa σ H fun v H1 => tD X.K X.mg E fb σ H1 fun u H2 => ∃ i j : Int, [v, u] = [V.int i, V.int j] ∧ (-(2 ^ 62) ≤ i ∧ i < 2 ^ 62 ∧ -(2 ^ 62) ≤ j ∧ j < 2 ^ 62) ∧ R (Itr i (j - i).toNat) H2
    refine ⟨Hf, env, s, r, ?_⟩
    revert af
    dsimp only
    cases fa env with
    | un => exact fun h => h
    | er x => exact fun h => h
    | ok d =>
      dsimp only [Oc.bind_ok]
      intro h v Hf1 H1 f1 rv
      refine ⟨Hf1, env, f1.fh, r.mono f1.ff, ?_⟩
      revert h
      cases fb env with
      | un => exact fun h => h
      | er x => exact fun h cls dd Hf2 H2 f2 r2 => h cls dd Hf2 H2 (f1.trans f2) r2
      | ok e =>
        dsimp only [Oc.bind_ok]
        intro h u Hf2 H2 f2 ru
        cases d with
        | int i =>
          cases e with
          | int j =>
            dsimp only [range2D] at h
            by_cases hj : -(2 ^ 62) ≤ i ∧ i < 2 ^ 62 ∧ -(2 ^ 62) ≤ j ∧ j < 2 ^ 62
            · rw [if_pos hj] at h
              exact ⟨i, j, by rw [rep_int rv, rep_int ru], hj, range_use h (f1.trans f2) fun Hg => it_range⟩
            · rw [if_neg hj] at h
              exact h.elim
          | _ => exact h.elim
        | _ => exact h.elim
/-! ### while -/
def whGo (c : En → Oc Bool) (body : List Sl → Out) : Nat → List Sl → Out
  | 0, _ => .un
  | n + 1, env => exO (frz allN 0 env) (c (view allN env)) fun k => if k = true then (match body env with
      | .nx e => whGo c body n e
      | .ct e => whGo c body n e
      | .bk e => .nx e
      | .rt v => .rt v
      | .rs x e => .rs x e
      | .un => .un) else .nx env
theorem whGo_more {c : En → Oc Bool} {body : List Sl → Out} : ∀ (n m : Nat) (env : List Sl), n ≤ m → whGo c body n env ≠ .un → whGo c body m env = whGo c body n env
  | 0, m, env, _, h => absurd rfl h
  | n + 1, 0, env, hm, _ => by omega
  | n + 1, m + 1, env, hm, h => by
    unfold whGo at h ⊢
    cases q : c (view allN env) with
    | un => rfl
    | er x => rfl
    | ok k =>
      rw [q] at h
      dsimp only [exO_ok] at h ⊢
      cases k with
      | false => rfl
      | true =>
        rw [if_pos rfl] at h ⊢
        rw [if_pos rfl]
        cases z : body env with
        | nx e => rw [z] at h; exact whGo_more n m e (by omega) h
        | ct e => rw [z] at h; exact whGo_more n m e (by omega) h
        | bk e => rfl
        | rt v => rfl
        | rs x e => rfl
        | un => rfl
open Classical in
noncomputable def sWhile (c : En → Oc Bool) (body : List Sl → Out) (env : List Sl) : Out := if h : ∃ n, whGo c body n env ≠ .un then whGo c body h.choose env else .un
theorem sWhile_eq {c : En → Oc Bool} {body : List Sl → Out} {env : List Sl} {n : Nat} (h : whGo c body n env ≠ .un) : sWhile c body env = whGo c body n env := by
  have h2 : ∃ n, whGo c body n env ≠ .un := ⟨n, h⟩
  unfold sWhile
  rw [dif_pos h2]
  have e1 := whGo_more h2.choose (max n h2.choose) env (Nat.le_max_right _ _) h2.choose_spec
  have e2 := whGo_more n (max n h2.choose) env (Nat.le_max_left _ _) h
  rw [← e1, e2]
theorem psd_while {c : Expr} {body : List Stmt} {tc : En → Oc Bool} {gb : List Sl → Out} (hp : PassesOwn (model X.prog X.w) X.A X.env X.xe) (hc : PTd X E c tc) (hb : PSsd X E body gb) : PSd X E (.While c body [] pos) (sWhile tc gb) :=
  ps_imp (ps_while hp hc hb) fun D' σ H ⟨H0, Hf0, Hf, env, S, af⟩ => by
    by_cases h : ∃ n, whGo tc gb n env ≠ .un
    · obtain ⟨n, hn⟩ := h
      rw [sWhile_eq hn] at af
      refine ⟨fun m σ H => ∃ Hf env, SlOk X.K X.mg H0 Hf0 Hf H env σ ∧ AfS X.K X.mg E H0 Hf0 D' (whGo tc gb m env), ⟨n, Hf, env, S, af⟩, ?_⟩
      rintro m σ H ⟨Hf, env, S, af⟩
      cases m with
      | zero => exact af.elim
      | succ m =>
        unfold whGo at af
        refine ev_useB S af fun d Hf' H' q fr af' => ?_
        have S' := (S.back fr).1
        cases d with
        | false => exact af' _ _ _ S'
        | true =>
          rw [if_pos rfl] at af'
          show ∃ N, _
          refine ⟨fun σ' H' => ∃ Hf env, SlOk X.K X.mg H0 Hf0 Hf H' env σ' ∧ AfS X.K X.mg E H0 Hf0 D' (whGo tc gb m env), fun σ' H' n => ⟨m, Nat.lt_succ_self m, n⟩, H0, Hf0, _, env, S', ?_⟩
          revert af'
          cases gb env with
          | nx e => exact fun af σ' Hf'' H'' S' => ⟨Hf'', e, S', af⟩
          | ct e => exact fun af σ' Hf'' H'' S' => ⟨Hf'', e, S', af⟩
          | bk e => exact fun af => af
          | rt v => exact fun af => af
          | rs x e => exact fun af => af
          | un => exact fun af => af
    · unfold sWhile at af
      rw [dif_neg h] at af
      exact af.elim
end
/-! ### a def -/
/-- the slots at the entry -/
def sl0 (n : Nat) (ds : List D) : List Sl := ds.map Sl.sh ++ List.replicate (n - ds.length) Sl.no
def runB (n : Nat) (g : List Sl → Out) (ds : List D) : Oc D := match g (sl0 n ds) with
  | .rt d => .ok d
  | .nx _ => .ok .non
  | .rs x _ => .er x
  | _ => .un
section
variable {P : Program} {w : World} {K : PySem.W.Frag} {mg : Str → Option Value} {base : Heap}
theorem sl_start {N : List Str} {H Hf : Hp} {ds : List D} {vs : List V} (s : Same Hf H) (r : Reps K mg Hf ds vs) (hn : ds.length ≤ N.length) : SlOk K mg ⟨H, 0⟩ Hf Hf H (sl0 N.length ds) (L2.start N vs) := by
  have el := r.len
  refine ⟨?_, Fr.refl s, fun i d e => ?_, fun i l e => ?_, fun i j l m p hij e1 => ?_, fun c ns vs' e => ?_⟩
  · unfold L2.start sl0
    simp only [List.length_append, List.length_map, List.length_replicate]
    omega
  · unfold sl0 at e
    by_cases hi : i < ds.length
    · rw [List.getElem?_append_left (by rw [List.length_map]; exact hi), List.getElem?_map] at e
      cases q : ds[i]? with
      | none => rw [q] at e; cases e
      | some d' =>
        rw [q] at e
        have e' : d' = d := by simpa using e
        subst e'
        obtain ⟨v, h1, h2⟩ := r.get q
        refine ⟨v, ?_, h2⟩
        unfold L2.start
        rw [List.getElem?_append_left (by rw [List.length_map]; omega), List.getElem?_map, h1]
        rfl
    · rw [List.getElem?_append_right (by rw [List.length_map]; omega)] at e
      have := List.mem_of_getElem? e
      rw [List.mem_replicate] at this
      cases this.2
  · unfold sl0 at e
    have := List.mem_of_getElem? e
    rw [List.mem_append, List.mem_map, List.mem_replicate] at this
    rcases this with ⟨d, _, h⟩ | ⟨_, h⟩ <;> cases h
  · unfold sl0 at e1
    have := List.mem_of_getElem? e1
    rw [List.mem_append, List.mem_map, List.mem_replicate] at this
    rcases this with ⟨d, _, h⟩ | ⟨_, h⟩ <;> cases h
  · unfold sl0 at e
    have := List.mem_of_getElem? e
    rw [List.mem_append, List.mem_map, List.mem_replicate] at this
    rcases this with ⟨d, _, h⟩ | ⟨_, h⟩ <;> cases h
theorem fn_sem {x qual : Str} {st : Stmt} {f : Addr} {fd : FuncData} {N ps : List Str} {k : Nat} {g : List Sl → Out} {m : List D → Oc D} (F : Fun K x qual st f fd) (S : FnScope N ps (defScope st)) (hN : ps.length ≤ N.length)
    (hm : ∀ ds, ds.length = ps.length → m ds ≠ .un → runB N.length g ds = m ds)
    (hbody : ∀ (cdv : Value) (A : Around) (outer : List Env) (s : Shared) (H : Hp) (E : XK), Room k (A.deeper (PyProof.Rows.envOfC qual (defScope st) s.heap.objs.size f cdv)) →
      PSsd (cxOf (L2.CX P w) P w K mg base N qual (defScope st) f cdv A outer s H E) (fun cls d _ H => E cls d H) (defBody st) g) : FnOk P w K mg base (L2.CX P w) (k + 1) f fd ps (spD K mg ps.length m) := by
  refine F.okX S (fun vs H Q E h => ?_) (fun cdv A outer s H vs Q E hr h => ⟨_, hbody cdv A outer s H E hr, ?_⟩)
  · obtain ⟨Hf, ds, l, _, r, _⟩ := h
    rw [r.len, l]
  · obtain ⟨Hf, ds, l, sm, r, a⟩ := h
    refine ⟨⟨H, 0⟩, Hf, Hf, sl0 N.length ds, sl_start sm r (by rw [l]; exact hN), ?_⟩
    have e := hm ds l fun z => by rw [z] at a; exact a
    rw [← e] at a
    unfold runB at a
    revert a
    show AfC K mg Hf H Q E (match g (sl0 N.length ds) with | .rt d => .ok d | .nx _ => .ok .non | .rs x _ => .er x | _ => .un) → AfS K mg (fun cls d _ H => E cls d H) ⟨H, 0⟩ Hf { nx := fun _ H' => Q .non H', rt := Q } (g (sl0 N.length ds))
    cases g (sl0 N.length ds) with
    | nx e => exact fun a σ' Hf' H' S' => a .non Hf' H' S'.fr non_rep
    | rt d => exact fun a => a
    | rs x e => exact fun a cls dd σ' Hf' H' S' r' => a cls dd Hf' H' S'.fr r'
    | bk e => exact fun a => a.elim
    | ct e => exact fun a => a.elim
    | un => exact fun a => a
end
end Sem

namespace Sem
open PySem PySem.Spec L2
/-! ### the rules in short: what a printed body is made of -/
def eV (i : Nat) : En → Oc D := fun env => env.at i
def eC (d : D) : En → Oc D := fun _ => .ok d
def eBin (g : D → D → Option D) (a b : En → Oc D) : En → Oc D := fun env => (a env).bind fun x => (b env).bind fun y => Oc.ofO (g x y)
def eUn (g : D → Option D) (a : En → Oc D) : En → Oc D := fun env => (a env).bind fun x => Oc.ofO (g x)
def eAnd (a b : En → Oc D) : En → Oc D := fun env => (a env).bind fun x => (Oc.ofO (truD x)).bind fun k => if k = true then b env else .ok x
def eOr (a b : En → Oc D) : En → Oc D := fun env => (a env).bind fun x => (Oc.ofO (truD x)).bind fun k => if k = true then .ok x else b env
def eNot (a : En → Oc D) : En → Oc D := fun env => (a env).bind fun x => (Oc.ofO (truD x)).bind fun k => .ok (.bl (!k))
def eIf (t : En → Oc Bool) (a b : En → Oc D) : En → Oc D := fun env => (t env).bind fun k => if k = true then a env else b env
def eChain (g g' : D → D → Option D) (a b c : En → Oc D) : En → Oc D := fun env => (a env).bind fun x => (b env).bind fun y => (Oc.ofO (g x y)).bind fun z => (Oc.ofO (asB z)).bind fun k => if k = true then (c env).bind fun u => Oc.ofO (g' y u) else .ok (.bl false)
def aNil : En → Oc (List D) := fun _ => .ok []
def aCons (a : En → Oc D) (r : En → Oc (List D)) : En → Oc (List D) := fun env => (a env).bind fun x => (r env).bind fun xs => .ok (x :: xs)
def eTup (r : En → Oc (List D)) : En → Oc D := fun env => (r env).bind fun xs => if xs.length ≤ 1000000 then .ok (.tup xs) else .un
def nLst (r : En → Oc (List D)) : En → Oc (List D) := fun env => (r env).bind fun xs => if xs.length ≤ 1000000 then .ok xs else .un
def nList (r : En → Oc (List D)) : En → Oc (List D) := fun env => (r env).bind fun ds => Oc.ofO (listD ds)
def eNew (n : En → Oc (List D)) : En → Oc D := fun env => (n env).bind fun xs => .ok (.lst xs)
def eB (g : List D → Option D) (r : En → Oc (List D)) : En → Oc D := fun env => (r env).bind fun ds => Oc.ofO (g ds)
def eCall (n : Nat) (m : List D → Oc D) (r : En → Oc (List D)) : En → Oc D := fun env => (r env).bind fun ds => if ds.length = n then m ds else .un
def cV (a : En → Oc D) : En → Oc Bool := fun env => (a env).bind fun x => Oc.ofO (truD x)
def cCmp (g : D → D → Option D) (a b : En → Oc D) : En → Oc Bool := fun env => (a env).bind fun x => (b env).bind fun y => (Oc.ofO (g x y)).bind fun z => Oc.ofO (asB z)
def cChain (g g' : D → D → Option D) (a b c : En → Oc D) : En → Oc Bool := fun env => (a env).bind fun x => (b env).bind fun y => (Oc.ofO (g x y)).bind fun z => (Oc.ofO (asB z)).bind fun k => if k = true then (c env).bind fun u => (Oc.ofO (g' y u)).bind fun z2 => Oc.ofO (asB z2) else .ok false
def cNot (t : En → Oc Bool) : En → Oc Bool := fun env => (t env).bind fun k => .ok (!k)
def cAnd (t u : En → Oc Bool) : En → Oc Bool := fun env => (t env).bind fun k => if k = true then u env else .ok false
def cOr (t u : En → Oc Bool) : En → Oc Bool := fun env => (t env).bind fun k => if k = true then .ok true else u env
def iS (a : En → Oc D) : En → Oc (List D × Bool) := fun env => (a env).bind fun d => Oc.ofO (itemsD d)
def iN (n : En → Oc (List D)) : En → Oc (List D × Bool) := fun env => (n env).bind fun l => .ok (l, false)
def iR1 (a : En → Oc D) : En → Oc (List D × Bool) := fun env => (a env).bind fun d => Oc.ofO (range1D d)
def iR2 (a b : En → Oc D) : En → Oc (List D × Bool) := fun env => (a env).bind fun d => (b env).bind fun e => Oc.ofO (range2D d e)
def tN (i : Nat) : D → List Sl → Option (List Sl) := fun d env => some (env.set i (.sh d))
def tsNil : List D → List Sl → Option (List Sl) := fun ds env => match ds with | [] => some env | _ => none
def tsCons (T : D → List Sl → Option (List Sl)) (Ts : List D → List Sl → Option (List Sl)) : List D → List Sl → Option (List Sl) := fun ds env => match ds with | d :: r => (T d env).bind fun e1 => Ts r e1 | [] => none
def tT (n : Nat) (Ts : List D → List Sl → Option (List Sl)) : D → List Sl → Option (List Sl) := fun d env => match d with | .tup ds => if ds.length = n then Ts ds env else none | _ => none
def sNx : List Sl → Out := fun env => .nx env
def sBrk : List Sl → Out := fun env => .bk env
def sCont : List Sl → Out := fun env => .ct env
def sUn : List Sl → Out := fun _ => .un
def sRetN : List Sl → Out := fun _ => .rt .non
def sSeq (a b : List Sl → Out) : List Sl → Out := fun env => (a env).seq b
section
variable {X : Cx} {E : WX} {pos p : Pos} {a b c e : Expr} {fa fb fc f : En → Oc D} {g g' : D → D → Option D} {ta tb : En → Oc Bool} {rest es : List Expr} {fs : En → Oc (List D)} {fl : En → Oc (List D)} {x : Str}
theorem q_v (i : Nat) {x : Str} (hN : X.N[i]? = some x := by rfl) (hv : Vis X.env.scope x := by first | exact Or.inl rfl | exact Or.inr (Or.inl rfl) | exact Or.inr (Or.inr rfl)) (hd : (x == ("__debug__" : Str)) = false := by decide)
    (hcd : (x == ("__classdict__" : Str)) = false := by decide) : PEd X E (.Name x pos) (eV i) := ped_var hN hv hd hcd
theorem q_int {i : Int} {j} : PEd X E (.Constant (.int i) j pos) (eC (.int i)) := ped_int
theorem q_bl {b : Bool} {j} : PEd X E (.Constant (.bool b) j pos) (eC (.bl b)) := ped_bl
theorem q_str {z : Str} {j} : PEd X E (.Constant (.str z) j pos) (eC (.str z)) := ped_str
theorem q_non {j} : PEd X E (.Constant .none j pos) (eC .non) := ped_non
theorem q_ty {n : String} (hm : X.mg x = none) (hv : bootBuiltins x = some (.type n)) (hg : Gl X x := by rfl) (hn : x ≠ "__name__" := by decide) (hd : (x == ("__debug__" : Str)) = false := by decide) : PEd X E (.Name x pos) (eC (.ty n)) := ped_ty hm hv hg hn hd
theorem q_bin {op : Operator} (ho : OpD X (binaryOp op) g) (ha : PEd X E a fa) (hb : PEd X E b fb) : PEd X E (.BinOp a op b pos) (eBin g fa fb) := ped_op ho ha hb
theorem q_cmp {op : CmpOp} (ho : OpD X (compareOp op) g) (ha : PEd X E a fa) (hb : PEd X E b fb) (hm : behindInMarks op b = false := by first | rfl | exact nomark _) : PEd X E (.Compare a [op] [b] pos) (eBin g fa fb) := ped_cmp ho ha hb hm
theorem q_ix (ha : PEd X E a fa) (hb : PEd X E b fb) (hs : PlainIx b := by exact fun _ _ => rfl) : PEd X E (.Subscript a b pos) (eBin ixD fa fb) := ped_ix ha hb hs
theorem q_neg (ha : PEd X E a fa) : PEd X E (.UnaryOp .USub a pos) (eUn negD fa) := ped_neg ha
theorem q_one {op} (h : PEd X E a fa) : PEd X E (.BoolOp op [a] pos) fa := ped_one h
theorem q_and (ha : PEd X E a fa) (hb : PEd X E (.BoolOp .And (b :: rest) pos) fb) : PEd X E (.BoolOp .And (a :: b :: rest) pos) (eAnd fa fb) := ped_and ha hb
theorem q_or (ha : PEd X E a fa) (hb : PEd X E (.BoolOp .Or (b :: rest) pos) fb) : PEd X E (.BoolOp .Or (a :: b :: rest) pos) (eOr fa fb) := ped_or ha hb
theorem q_not (ha : PEd X E a fa) : PEd X E (.UnaryOp .Not a pos) (eNot fa) := ped_not ha
theorem q_if {t : Expr} (ht : PTd X E t ta) (ha : PEd X E a fa) (hb : PEd X E b fb) : PEd X E (.IfExp t a b pos) (eIf ta fa fb) := ped_if ht ha hb
theorem q_chain {op op' : CmpOp} (ho : OpD X (compareOp op) g) (ho' : OpD X (compareOp op') g') (ha : PEd X E a fa) (hb : PEd X E b fb) (hc : PEd X E c fc) (hm : lastMarks [op, op'] [b, c] = false := by rfl) : PEd X E (.Compare a [op, op'] [b, c] pos) (eChain g g' fa fb fc) := ped_chain ho ho' ha hb hc hm
theorem q_nil : PAd X E [] aNil := pad_nil
theorem q_cons (ha : PEd X E a fa) (hr : PAd X E es fs) (hs : starEach (a :: es) X.env = (false, eval a X.env) :: starEach es X.env := by rfl) : PAd X E (a :: es) (aCons fa fs) := pad_cons ha hr hs
theorem q_tup {x1} (ha : PAd X E es fs) : PEd X E (.Tuple es x1 pos) (eTup fs) := ped_tup ha
theorem q_lst (ha : PAd X E es fs) : PNd X E (.List es pos) (nLst fs) := pnd_lst ha
theorem q_new (h : PNd X E a fl) : PEd X E a (eNew fl) := ped_new h
theorem q_list (hm : X.mg "list" = none) (ha : PAd X E (e :: es) fs) (hg : Gl X "list" := by rfl)
    (he : starEach (e :: es) X.env = (false, eval e X.env) :: starEach es X.env := by rfl) (hpl : (backTo pos (starEach es X.env)).any (·.1) = false := by rfl) : PNd X E (.Call (.Name "list" p) (e :: es) [] pos) (nList fs) := pnd_list hm ha hg he hpl
theorem q_B {id : String} {g : List D → Option D} (hc : CallD X (.builtin id) g) (hm : X.mg x = none) (hv : bootBuiltins x = some (.builtin id)) (ha : PAd X E (e :: es) fs) (hg : Gl X x := by rfl) (hn : x ≠ "__name__" := by decide) (hdb : (x == ("__debug__" : Str)) = false := by decide)
    (he : starEach (e :: es) X.env = (false, eval e X.env) :: starEach es X.env := by rfl) (hpl : (backTo pos (starEach es X.env)).any (·.1) = false := by rfl) : PEd X E (.Call (.Name x p) (e :: es) [] pos) (eB g fs) := ped_callB hc hm hv ha hg hn hdb he hpl
theorem q_T {T : String} {g : List D → Option D} (hc : CallD X (.type T) g) (hm : X.mg x = none) (hv : bootBuiltins x = some (.type T)) (ha : PAd X E (e :: es) fs) (hg : Gl X x := by rfl) (hn : x ≠ "__name__" := by decide) (hdb : (x == ("__debug__" : Str)) = false := by decide)
    (he : starEach (e :: es) X.env = (false, eval e X.env) :: starEach es X.env := by rfl) (hpl : (backTo pos (starEach es X.env)).any (·.1) = false := by rfl) : PEd X E (.Call (.Name x p) (e :: es) [] pos) (eB g fs) := ped_callTy hc hm hv ha hg hn hdb he hpl
theorem q_Bf {id : String} {g : List D → Option D} (hc : CallD X (.builtin id) g) (hm : X.mg x = some (.builtin id)) (ha : PAd X E (e :: es) fs) (hg : Gl X x := by rfl) (hdb : (x == ("__debug__" : Str)) = false := by decide)
    (he : starEach (e :: es) X.env = (false, eval e X.env) :: starEach es X.env := by rfl) (hpl : (backTo pos (starEach es X.env)).any (·.1) = false := by rfl) : PEd X E (.Call (.Name x p) (e :: es) [] pos) (eB g fs) := ped_callBf hc hm ha hg hdb he hpl
/-- a def of the program, with all that its callers want -/
structure FnI (P : Program) (w : World) (K : PySem.W.Frag) (mg : Str → Option Value) (base : Heap) (k : Nat) (x : Str) (n : Nat) (m : List D → Oc D) : Prop where
  ex : ∃ f fd ps, mg x = some (.ref f) ∧ PySem.W.keepIn K (.ref f) = true ∧ Binds K fd ps [] ∧ FnOk P w K mg base (L2.CX P w) k f fd ps (spD K mg n m)
theorem q_call {k n : Nat} {m : List D → Oc D} (G : FnI X.prog X.w X.K X.mg X.base k x n m) (hr : Room k X.A) (tk : Takes X E) (ha : PAd X E (e :: es) fs) (hl : (e :: es).length = n := by rfl) (hg : Gl X x := by rfl) (hdb : (x == ("__debug__" : Str)) = false := by decide)
    (he : starEach (e :: es) X.env = (false, eval e X.env) :: starEach es X.env := by rfl) (hpl : (backTo pos (starEach es X.env)).any (·.1) = false := by rfl) : PEd X E (.Call (.Name x p) (e :: es) [] pos) (eCall n m fs) := by
  obtain ⟨f, fd, ps, h1, h2, h3, h4⟩ := G.ex
  exact ped_call h4 hr h1 h2 h3 tk ha hl hg hdb he hpl
theorem c_v (ha : PEd X E a fa) (he : ∀ whole, isTrue a X.env whole = (do let v ← whole; standAt a.pos; holding [v] (truthy v)) := by intro _; rfl) : PTd X E a (cV fa) := ptd_val ha he
theorem c_cmp {op : CmpOp} (ho : OpD X (compareOp op) g) (ha : PEd X E a fa) (hb : PEd X E b fb) (hm : behindInMarks op b = false := by first | rfl | exact nomark _) : PTd X E (.Compare a [op] [b] pos) (cCmp g fa fb) := ptd_cmp ho ha hb hm
theorem c_chain {op op' : CmpOp} (ho : OpD X (compareOp op) g) (ho' : OpD X (compareOp op') g') (ha : PEd X E a fa) (hb : PEd X E b fb) (hc : PEd X E c fc) (hm : lastMarks [op, op'] [b, c] = false := by rfl) : PTd X E (.Compare a [op, op'] [b, c] pos) (cChain g g' fa fb fc) := ptd_chain ho ho' ha hb hc hm
theorem c_not (ha : PTd X E a ta) : PTd X E (.UnaryOp .Not a pos) (cNot ta) := ptd_not ha
theorem w_and1 (ha : PTd X E a ta) : PWd X E (.BoolOp .And [a] pos) ta := pwd_and1 ha
theorem w_or1 (ha : PTd X E a ta) : PWd X E (.BoolOp .Or [a] pos) ta := pwd_or1 ha
theorem w_and (ha : PTd X E a ta) (hb : PWd X E (.BoolOp .And (b :: rest) pos) tb) : PWd X E (.BoolOp .And (a :: b :: rest) pos) (cAnd ta tb) := pwd_and ha hb
theorem w_or (ha : PTd X E a ta) (hb : PWd X E (.BoolOp .Or (b :: rest) pos) tb) : PWd X E (.BoolOp .Or (a :: b :: rest) pos) (cOr ta tb) := pwd_or ha hb
theorem c_w (h : PWd X E a ta) : PTd X E a ta := ptd_w h
theorem i_s {tg : Expr} (he : PEd X E e f) : PId X E tg e (iS f) := pid_seq he
theorem i_n {tg : Expr} (he : PNd X E e fl) : PId X E tg e (iN fl) := pid_new he
theorem i_r1 {tg : Expr} (hm : X.mg "range" = none) (ha : PEd X E a fa) (hg : Gl X "range" := by rfl) (hs : starEach [a] X.env = [(false, eval a X.env)] := by rfl) (hs0 : starEach [a] X.env = (false, eval a X.env) :: starEach [] X.env := by rfl) :
    PId X E tg (.Call (.Name "range" p) [a] [] pos) (iR1 fa) := pid_range1 hm ha hg hs hs0
theorem i_r2 {tg : Expr} (hm : X.mg "range" = none) (ha : PEd X E a fa) (hb : PEd X E b fb) (hg : Gl X "range" := by rfl) (hs : starEach [a, b] X.env = [(false, eval a X.env), (false, eval b X.env)] := by rfl) (hs2 : starEach [b] X.env = [(false, eval b X.env)] := by rfl)
    (hs0 : starEach [a, b] X.env = (false, eval a X.env) :: starEach [b] X.env := by rfl) (hs1 : starEach [b] X.env = (false, eval b X.env) :: starEach [] X.env := by rfl) :
    PId X E tg (.Call (.Name "range" p) [a, b] [] pos) (iR2 fa fb) := pid_range2 hm ha hb hg hs hs2 hs0 hs1
theorem t_n (i : Nat) {x : Str} (hN : X.N.Nodup) (hi : X.N[i]? = some x := by rfl) (hx : Loc X.env.scope x := by first | exact Or.inl rfl | exact Or.inr rfl) (hf : X.fn x = true ∨ X.env.scope.names.lookup x = some .local := by first | exact .inl rfl | exact .inr rfl | assumption) :
    PGd X (.Name x pos) (tN i) := pgd_name hN hi hx hf
theorem ts_nil : PGsd X [] tsNil := pgsd_nil
theorem ts_cons {tg : Expr} {tgs : List Expr} {T : D → List Sl → Option (List Sl)} {Ts : List D → List Sl → Option (List Sl)} (h1 : PGd X tg T) (h2 : PGsd X tgs Ts) (ht : (assignEach (tg :: tgs) X.env).map (·.2) = assign tg X.env :: (assignEach tgs X.env).map (·.2) := by rfl) :
    PGsd X (tg :: tgs) (tsCons T Ts) := pgsd_cons h1 h2 ht
theorem t_t {kd : Nat} {Ts : List D → List Sl → Option (List Sl)} {n : Nat} (hc : X.calm = true) (h : PGsd X es Ts) (hn : (assignEach es X.env).length = n := by rfl) (hst : (assignEach es X.env).findIdx? (·.1) = none := by rfl) :
    PGd X (.Tuple es kd pos) (tT n Ts) := pgd_tup hc h hn hst
variable {st : Stmt} {sts : List Stmt} {g1 g2 : List Sl → Out}
theorem s_nil : PSsd X E [] sNx := psd_nil
theorem s_cons (h1 : PSd X E st g1) (h2 : PSsd X E sts g2) : PSsd X E (st :: sts) (sSeq g1 g2) := psd_cons h1 h2
theorem s_one (h : PSd X E st g1) : PSsd X E [st] g1 := psd_one h
theorem s_pass : PSd X E (.Pass pos) sNx := psd_pass
theorem s_break : PSd X E (.Break pos) sBrk := psd_break
theorem s_cont : PSd X E (.Continue pos) sCont := psd_cont
theorem s_never : PSd X E st sUn := psd_never
theorem s_retN : PSd X E (.Return none pos) sRetN := psd_retN
end
section
variable {P : Program} {w : World} {K : PySem.W.Frag} {mg : Str → Option Value} {base : Heap}
/-- a def without recursion -/
theorem fni {x : Str} {st : Stmt} {f : Addr} {fd : FuncData} {N ps : List Str} {k : Nat} {g : List Sl → Out} (F : Fun K x x st f fd) (hx : mg x = some (.ref f)) (hb : Binds K fd ps []) (S : FnScope N ps (defScope st)) (hN : ps.length ≤ N.length)
    (hbody : ∀ (cdv : Value) (A : Around) (outer : List Env) (s : Shared) (H : Hp) (E : XK), Room k (A.deeper (PyProof.Rows.envOfC x (defScope st) s.heap.objs.size f cdv)) →
      PSsd (cxOf (L2.CX P w) P w K mg base N x (defScope st) f cdv A outer s H E) (fun cls d _ H => E cls d H) (defBody st) g) : FnI P w K mg base (k + 1) x ps.length (runB N.length g) :=
  ⟨f, fd, ps, hx, F.kp, hb, fn_sem F S hN (fun ds l _ => rfl) hbody⟩
theorem fni0 {x : Str} {f : Addr} {fd : FuncData} {ps : List Str} {k : Nat} (hx : mg x = some (.ref f)) (hk : PySem.W.keepIn K (.ref f) = true) (hb : Binds K fd ps []) : FnI P w K mg base k x ps.length (fun _ => .un) :=
  ⟨f, fd, ps, hx, hk, hb, ⟨fun vs H Q E ⟨Hf, ds, l, _, r, _⟩ => by rw [r.len, l], fun A outer s H args us vs Q E _ _ _ _ ⟨Hf, ds, l, _, r, a⟩ => a.elim⟩⟩
end
/-! ### the end of a law: a list of ints is handed in, True comes out -/
def spLaw (K : PySem.W.Frag) : Sp := fun vs H Q _ => ∃ (a : Addr) (ns : List Int), vs = [.ref a] ∧ SqL K H a (ns.map V.int) ∧ ns.length ≤ 63 ∧ ∀ H', Q (.bl true) H'
theorem law_imp {K : PySem.W.Frag} {mg : Str → Option Value} {m : List D → Oc D} (h : ∀ ns : List Int, ns.length ≤ 63 → m [.scr ns] = .ok (.bl true)) : ∀ vs H Q E, spLaw K vs H Q E → spD K mg 1 m vs H Q E := fun vs H Q E ⟨a, ns, e, hs, hl, k⟩ => by
  refine ⟨H, [.scr ns], rfl, Same.refl _, by rw [e]; exact Reps.cons (by unfold Rep; exact ⟨a, rfl, hs⟩) Reps.nil, ?_⟩
  rw [h ns hl]
  exact fun v Hf' H' _ r => by rw [rep_bl r]; exact k H'
theorem law_cx {P : Program} {w : World} {H : Hp} {s s' : Shared} {e : Value} (h : L2.CX P w [] H s (fun _ _ _ => False) e s') : False := by
  obtain ⟨_, _, _, _, _, _, _, _, _, _, _, _, z⟩ := h
  exact z
end Sem

namespace Sem
open PySem PySem.Spec L2
/-! ### the plain functions, evaluated by simp -/
@[simp] theorem Oc.bind_ok_s {α β : Type} (a : α) (f : α → Oc β) : (Oc.ok a).bind f = f a := (rfl)
@[simp] theorem Oc.bind_er_s {α β : Type} (x : D) (f : α → Oc β) : (Oc.er x : Oc α).bind f = .er x := (rfl)
@[simp] theorem Oc.bind_un_s {α β : Type} (f : α → Oc β) : (Oc.un : Oc α).bind f = .un := (rfl)
@[simp] theorem Oc.ofO_some_s {α : Type} (a : α) : Oc.ofO (some a) = .ok a := (rfl)
@[simp] theorem Oc.ofO_none_s {α : Type} : Oc.ofO (none : Option α) = .un := (rfl)
@[simp] theorem Out.seq_nx_s (e : List Sl) (g : List Sl → Out) : (Out.nx e).seq g = g e := (rfl)
@[simp] theorem Out.seq_bk_s (e : List Sl) (g : List Sl → Out) : (Out.bk e).seq g = .bk e := (rfl)
@[simp] theorem Out.seq_ct_s (e : List Sl) (g : List Sl → Out) : (Out.ct e).seq g = .ct e := (rfl)
@[simp] theorem Out.seq_rt_s (d : D) (g : List Sl → Out) : (Out.rt d).seq g = .rt d := (rfl)
@[simp] theorem Out.seq_rs_s (x : D) (e : List Sl) (g : List Sl → Out) : (Out.rs x e).seq g = .rs x e := (rfl)
@[simp] theorem Out.seq_un_s (g : List Sl → Out) : (Out.un).seq g = .un := (rfl)
@[simp] theorem exO_ok_s {α : Type} (e : List Sl) (a : α) (k : α → Out) : exO e (.ok a) k = k a := (rfl)
@[simp] theorem exO_er_s {α : Type} (e : List Sl) (x : D) (k : α → Out) : exO e (.er x : Oc α) k = .rs x e := (rfl)
@[simp] theorem exO_un_s {α : Type} (e : List Sl) (k : α → Out) : exO e (.un : Oc α) k = .un := (rfl)
@[simp] theorem ofT_some_s (e : List Sl) : ofT (some e) = .nx e := (rfl)
@[simp] theorem ofT_none_s : ofT none = .un := (rfl)
def frz1 (p : Nat → Bool) (k : Nat) : Sl → Sl
  | .ow o => if p k = true then .sh o.d else .ow o
  | s => s
@[simp] theorem frz1_sh (p : Nat → Bool) (k : Nat) (d : D) : frz1 p k (.sh d) = .sh d := (rfl)
@[simp] theorem frz1_no (p : Nat → Bool) (k : Nat) : frz1 p k .no = .no := (rfl)
@[simp] theorem frz1_own (p : Nat → Bool) (k : Nat) (l : List D) : frz1 p k (.own l) = if p k = true then .sh (.lst l) else .own l := (rfl)
@[simp] theorem frz_nil (p : Nat → Bool) (k : Nat) : frz p k [] = [] := by unfold frz; rfl
@[simp] theorem frz_cons (p : Nat → Bool) (k : Nat) (s : Sl) (r : List Sl) : frz p k (s :: r) = frz1 p k s :: frz p (k + 1) r := by cases s <;> (conv => lhs; unfold frz) <;> rfl
@[simp] theorem shv_sh (d : D) : shv (.sh d) = some d := (rfl)
@[simp] theorem shv_no : shv .no = none := (rfl)
@[simp] theorem shv_own (l : List D) : shv (.own l) = none := (rfl)
@[simp] theorem view_nil (p : Nat → Bool) : view p [] = [] := by unfold view; simp
def viewK (p : Nat → Bool) (k : Nat) (e : List Sl) : En := (frz p k e).map shv
theorem view_k (p : Nat → Bool) (e : List Sl) : view p e = viewK p 0 e := rfl
@[simp] theorem viewK_nil (p : Nat → Bool) (k : Nat) : viewK p k [] = [] := by unfold viewK; simp
@[simp] theorem viewK_cons (p : Nat → Bool) (k : Nat) (s : Sl) (r : List Sl) : viewK p k (s :: r) = shv (frz1 p k s) :: viewK p (k + 1) r := by unfold viewK; simp
@[simp] theorem at_zero (d : D) (r : En) : En.at (some d :: r) 0 = .ok d := (rfl)
@[simp] theorem at_succ (x : Option D) (r : En) (n : Nat) : En.at (x :: r) (n + 1) = En.at r n := (rfl)
@[simp] theorem inL_nil (i : Nat) : inL [] i = false := (rfl)
@[simp] theorem inL_cons (a : Nat) (l : List Nat) (i : Nat) : inL (a :: l) i = (decide (i = a) || inL l i) := by
  unfold inL
  rw [List.contains_cons]
  by_cases h : i = a
  · rw [h]; simp
  · simp [h]
@[simp] theorem allN_ap (i : Nat) : allN i = true := (rfl)
section
variable (env : En) (i : Nat) (d : D) (g g' : D → D → Option D) (a b c : En → Oc D) (t u : En → Oc Bool) (r : En → Oc (List D)) (gl : List D → Option D) (m : List D → Oc D) (n : Nat)
@[simp] theorem eV_ap : eV i env = env.at i := (rfl)
@[simp] theorem eC_ap : eC d env = .ok d := (rfl)
@[simp] theorem eBin_ap : eBin g a b env = (a env).bind fun x => (b env).bind fun y => Oc.ofO (g x y) := (rfl)
@[simp] theorem eUn_ap (g : D → Option D) : eUn g a env = (a env).bind fun x => Oc.ofO (g x) := (rfl)
@[simp] theorem eAnd_ap : eAnd a b env = (a env).bind fun x => (Oc.ofO (truD x)).bind fun k => if k = true then b env else .ok x := (rfl)
@[simp] theorem eOr_ap : eOr a b env = (a env).bind fun x => (Oc.ofO (truD x)).bind fun k => if k = true then .ok x else b env := (rfl)
@[simp] theorem eNot_ap : eNot a env = (a env).bind fun x => (Oc.ofO (truD x)).bind fun k => .ok (.bl (!k)) := (rfl)
@[simp] theorem eIf_ap : eIf t a b env = (t env).bind fun k => if k = true then a env else b env := (rfl)
@[simp] theorem eChain_ap : eChain g g' a b c env = (a env).bind fun x => (b env).bind fun y => (Oc.ofO (g x y)).bind fun z => (Oc.ofO (asB z)).bind fun k => if k = true then (c env).bind fun u => Oc.ofO (g' y u) else .ok (.bl false) := (rfl)
@[simp] theorem aNil_ap : aNil env = .ok [] := (rfl)
@[simp] theorem aCons_ap : aCons a r env = (a env).bind fun x => (r env).bind fun xs => .ok (x :: xs) := (rfl)
@[simp] theorem eTup_ap : eTup r env = (r env).bind fun xs => if xs.length ≤ 1000000 then .ok (.tup xs) else .un := (rfl)
@[simp] theorem nLst_ap : nLst r env = (r env).bind fun xs => if xs.length ≤ 1000000 then .ok xs else .un := (rfl)
@[simp] theorem nList_ap : nList r env = (r env).bind fun ds => Oc.ofO (listD ds) := (rfl)
@[simp] theorem eNew_ap : eNew r env = (r env).bind fun xs => .ok (.lst xs) := (rfl)
@[simp] theorem eB_ap : eB gl r env = (r env).bind fun ds => Oc.ofO (gl ds) := (rfl)
@[simp] theorem eCall_ap : eCall n m r env = (r env).bind fun ds => if ds.length = n then m ds else .un := (rfl)
@[simp] theorem cV_ap : cV a env = (a env).bind fun x => Oc.ofO (truD x) := (rfl)
@[simp] theorem cCmp_ap : cCmp g a b env = (a env).bind fun x => (b env).bind fun y => (Oc.ofO (g x y)).bind fun z => Oc.ofO (asB z) := (rfl)
@[simp] theorem cChain_ap : cChain g g' a b c env = (a env).bind fun x => (b env).bind fun y => (Oc.ofO (g x y)).bind fun z => (Oc.ofO (asB z)).bind fun k => if k = true then (c env).bind fun u => (Oc.ofO (g' y u)).bind fun z2 => Oc.ofO (asB z2) else .ok false := (rfl)
@[simp] theorem cNot_ap : cNot t env = (t env).bind fun k => .ok (!k) := (rfl)
@[simp] theorem cAnd_ap : cAnd t u env = (t env).bind fun k => if k = true then u env else .ok false := (rfl)
@[simp] theorem cOr_ap : cOr t u env = (t env).bind fun k => if k = true then .ok true else u env := (rfl)
@[simp] theorem iS_ap : iS a env = (a env).bind fun d => Oc.ofO (itemsD d) := (rfl)
@[simp] theorem iN_ap : iN r env = (r env).bind fun l => .ok (l, false) := (rfl)
@[simp] theorem iR1_ap : iR1 a env = (a env).bind fun d => Oc.ofO (range1D d) := (rfl)
@[simp] theorem iR2_ap : iR2 a b env = (a env).bind fun d => (b env).bind fun e => Oc.ofO (range2D d e) := (rfl)
end
section
variable (env : List Sl) (i n : Nat) (d : D) (ds : List D) (T : D → List Sl → Option (List Sl)) (Ts : List D → List Sl → Option (List Sl)) (p : Nat → Bool) (f : En → Oc D) (fl : En → Oc (List D)) (c : En → Oc Bool) (a b : List Sl → Out) (fi : En → Oc (List D × Bool))
@[simp] theorem tN_ap : tN i d env = some (env.set i (.sh d)) := (rfl)
@[simp] theorem tsNil_ap : tsNil [] env = some env := (rfl)
@[simp] theorem tsCons_ap : tsCons T Ts (d :: ds) env = (T d env).bind fun e1 => Ts ds e1 := (rfl)
@[simp] theorem tT_ap : tT n Ts (.tup ds) env = if ds.length = n then Ts ds env else none := (rfl)
@[simp] theorem sNx_ap : sNx env = .nx env := (rfl)
@[simp] theorem sBrk_ap : sBrk env = .bk env := (rfl)
@[simp] theorem sCont_ap : sCont env = .ct env := (rfl)
@[simp] theorem sUn_ap : sUn env = .un := (rfl)
@[simp] theorem sRetN_ap : sRetN env = .rt .non := (rfl)
@[simp] theorem sSeq_ap : sSeq a b env = (a env).seq b := (rfl)
@[simp] theorem sRet_ap : sRet f env = exO (frz allN 0 env) (f (viewK allN 0 env)) fun d => .rt d := (rfl)
@[simp] theorem sDrop_ap : sDrop f env = exO (frz allN 0 env) (f (viewK allN 0 env)) fun _ => .nx env := (rfl)
@[simp] theorem sIf_ap : sIf c a b env = exO (frz allN 0 env) (c (viewK allN 0 env)) fun k => if k = true then a env else b env := (rfl)
@[simp] theorem sAsg_ap : sAsg T p f env = exO (frz p 0 env) (f (viewK p 0 env)) fun d => ofT (T d (if lf d = true then env else frz p 0 env)) := (rfl)
@[simp] theorem sNew_ap : sNew i p fl env = exO (frz p 0 env) (fl (viewK p 0 env)) fun l => .nx ((if lfs l = true then env else frz p 0 env).set i (.own l)) := (rfl)
theorem sApp_own {l : List D} (h : env[i]? = some (.own l)) : sApp i p f env = exO (frz p 0 env) (f (viewK p 0 env)) fun d => if l.length < 1000000 ∧ (lf d = true ∨ p i = false) then .nx ((if lf d = true then env else frz p 0 env).set i (.own (l ++ [d]))) else .un := by
  unfold sApp
  rw [h]
  rfl
@[simp] theorem sFor_ap : sFor T p fi b env = exO (frz p 0 env) (fi (viewK p 0 env)) fun lk => forGo T b lk.1 (if (!lk.2 && lfs lk.1) = true then env else frz p 0 env) := (rfl)
@[simp] theorem forGo_nil : forGo T b [] env = .nx env := (rfl)
end
@[simp] theorem lf_non : lf .non = true := (rfl)
@[simp] theorem lf_bl (b : Bool) : lf (.bl b) = true := (rfl)
@[simp] theorem lf_int (b : Int) : lf (.int b) = true := (rfl)
@[simp] theorem lf_str (b : Str) : lf (.str b) = true := (rfl)
@[simp] theorem lf_tup (l : List D) : lf (.tup l) = lfs l := by unfold lf; rfl
@[simp] theorem frz1_ob (p : Nat → Bool) (k : Nat) (c : Str) (ns : List Str) (vs : List D) : frz1 p k (.ob c ns vs) = if p k = true then .sh (.obj c ns vs) else .ob c ns vs := (rfl)
@[simp] theorem shv_ob (c : Str) (ns : List Str) (vs : List D) : shv (.ob c ns vs) = none := (rfl)
@[simp] theorem lf_obj (c : Str) (ns : List Str) (vs : List D) : lf (.obj c ns vs) = false := (rfl)
@[simp] theorem lf_lst (l : List D) : lf (.lst l) = false := (rfl)
@[simp] theorem lf_scr (l : List Int) : lf (.scr l) = false := (rfl)
@[simp] theorem lfs_nil : lfs [] = true := (rfl)
@[simp] theorem lfs_cons (d : D) (l : List D) : lfs (d :: l) = (lf d && lfs l) := by conv => lhs; unfold lfs
@[simp] theorem lfs_append : ∀ (a b : List D), lfs (a ++ b) = (lfs a && lfs b)
  | [], b => by simp
  | d :: a, b => by rw [List.cons_append, lfs_cons, lfs_cons, lfs_append a b, Bool.and_assoc]
@[simp] theorem lfs_ints (l : List Int) : lfs (l.map D.int) = true := by
  induction l with
  | nil => rfl
  | cons a l ih => rw [List.map_cons, lfs_cons, ih]; rfl
/-! ### what the operations give on plain values -/
@[simp] theorem addD_ii (i j : Int) : addD (.int i) (.int j) = some (.int (i + j)) := (rfl)
@[simp] theorem subD_ii (i j : Int) : subD (.int i) (.int j) = some (.int (i - j)) := (rfl)
@[simp] theorem negD_i (i : Int) : negD (.int i) = some (.int (-i)) := (rfl)
@[simp] theorem ltD_ii (i j : Int) : ltD (.int i) (.int j) = some (.bl (decide (i < j))) := (rfl)
@[simp] theorem leD_ii (i j : Int) : leD (.int i) (.int j) = some (.bl (decide (i ≤ j))) := (rfl)
@[simp] theorem gtD_ii (i j : Int) : gtD (.int i) (.int j) = some (.bl (decide (j < i))) := (rfl)
@[simp] theorem geD_ii (i j : Int) : geD (.int i) (.int j) = some (.bl (decide (j ≤ i))) := (rfl)
theorem mulD_ii {i j : Int} (h : MulB i j) : mulD (.int i) (.int j) = some (.int (i * j)) := if_pos h
theorem fdivD_ii {i j : Int} (h : DvB j) : fdivD (.int i) (.int j) = some (.int (i / j)) := if_pos h
theorem modD_ii {i j : Int} (h : 0 < j) : modD (.int i) (.int j) = some (.int (i % j)) := if_pos h
theorem powD_ii {i j : Int} (h : 0 ≤ j ∧ j ≤ 1000000 ∧ i.natAbs < 2 ^ 64) : powD (.int i) (.int j) = some (.int (i ^ j.toNat)) := if_pos h
@[simp] theorem asB_bl (b : Bool) : asB (.bl b) = some b := (rfl)
@[simp] theorem truD_bl (b : Bool) : truD (.bl b) = some b := (rfl)
@[simp] theorem truD_non : truD .non = some false := (rfl)
@[simp] theorem truD_int (i : Int) : truD (.int i) = some (i != 0) := (rfl)
@[simp] theorem minD_ii (i j : Int) : minD [.int i, .int j] = some (.int (min i j)) := (rfl)
@[simp] theorem maxD_ii (i j : Int) : maxD [.int i, .int j] = some (.int (max i j)) := (rfl)
@[simp] theorem absD_i (i : Int) : absD [.int i] = some (.int (i.natAbs : Int)) := (rfl)
@[simp] theorem intD_i (i : Int) : intD [.int i] = some (.int i) := (rfl)
@[simp] theorem intD_b (b : Bool) : intD [.bl b] = some (.int (if b = true then 1 else 0)) := (rfl)
@[simp] theorem lenD_tup (l : List D) : lenD [.tup l] = some (.int (l.length : Int)) := (rfl)
@[simp] theorem lenD_lst (l : List D) : lenD [.lst l] = some (.int (l.length : Int)) := (rfl)
@[simp] theorem lenD_scr (l : List Int) : lenD [.scr l] = some (.int (l.length : Int)) := (rfl)
@[simp] theorem listD_tup (l : List D) : listD [.tup l] = some l := (rfl)
@[simp] theorem listD_lst (l : List D) : listD [.lst l] = some l := (rfl)
@[simp] theorem tupleD_tup (l : List D) : tupleD [.tup l] = some (.tup l) := (rfl)
@[simp] theorem tupleD_lst (l : List D) : tupleD [.lst l] = some (.tup l) := (rfl)
@[simp] theorem itemsD_tup (l : List D) : itemsD (.tup l) = some (l, false) := (rfl)
@[simp] theorem itemsD_lst (l : List D) : itemsD (.lst l) = some (l, true) := (rfl)
@[simp] theorem itemsD_scr (l : List Int) : itemsD (.scr l) = some (l.map .int, true) := (rfl)
@[simp] theorem isD_nn : isD .non .non = some (.bl true) := (rfl)
@[simp] theorem isD_in (i : Int) : isD (.int i) .non = some (.bl false) := (rfl)
@[simp] theorem isD_tn (l : List D) : isD (.tup l) .non = some (.bl false) := (rfl)
@[simp] theorem isD_sn (l : Str) : isD (.str l) .non = some (.bl false) := (rfl)
@[simp] theorem isD_bn (l : Bool) : isD (.bl l) .non = some (.bl false) := (rfl)
@[simp] theorem isNotD_nn : isNotD .non .non = some (.bl false) := (rfl)
@[simp] theorem isNotD_in (i : Int) : isNotD (.int i) .non = some (.bl true) := (rfl)
@[simp] theorem isNotD_tn (l : List D) : isNotD (.tup l) .non = some (.bl true) := (rfl)
/-! isinstance -/
theorem isi_k {d : D} {n T : String} {b : Bool} (hd : tyN d = some n) (hk : kitB n T = some b) : isiD [d, .ty T] = some (.bl b) := by
  show ((tyN d).bind fun n => (kitB n T).map D.bl) = some (.bl b)
  rw [hd]
  show (kitB n T).map D.bl = some (.bl b)
  rw [hk]
  rfl
section
variable (b : Bool) (i j : Int) (s z : Str) (l : List D)
@[simp] theorem isi_ti : isiD [.tup l, .ty "int"] = some (.bl false) := isi_k rfl (by decide +kernel)
@[simp] theorem isi_ii : isiD [.int i, .ty "int"] = some (.bl true) := isi_k rfl (by decide +kernel)
@[simp] theorem isi_bi : isiD [.bl b, .ty "int"] = some (.bl true) := isi_k rfl (by decide +kernel)
@[simp] theorem isi_si : isiD [.str s, .ty "int"] = some (.bl false) := isi_k rfl (by decide +kernel)
@[simp] theorem isi_ni : isiD [.non, .ty "int"] = some (.bl false) := isi_k rfl (by decide +kernel)
@[simp] theorem isi_li : isiD [.lst l, .ty "int"] = some (.bl false) := isi_k rfl (by decide +kernel)
@[simp] theorem isi_tb : isiD [.tup l, .ty "bool"] = some (.bl false) := isi_k rfl (by decide +kernel)
@[simp] theorem isi_ib : isiD [.int i, .ty "bool"] = some (.bl false) := isi_k rfl (by decide +kernel)
@[simp] theorem isi_bb : isiD [.bl b, .ty "bool"] = some (.bl true) := isi_k rfl (by decide +kernel)
@[simp] theorem isi_sb : isiD [.str s, .ty "bool"] = some (.bl false) := isi_k rfl (by decide +kernel)
@[simp] theorem isi_nb : isiD [.non, .ty "bool"] = some (.bl false) := isi_k rfl (by decide +kernel)
@[simp] theorem isi_lb : isiD [.lst l, .ty "bool"] = some (.bl false) := isi_k rfl (by decide +kernel)
@[simp] theorem isi_ts : isiD [.tup l, .ty "str"] = some (.bl false) := isi_k rfl (by decide +kernel)
@[simp] theorem isi_is : isiD [.int i, .ty "str"] = some (.bl false) := isi_k rfl (by decide +kernel)
@[simp] theorem isi_bs : isiD [.bl b, .ty "str"] = some (.bl false) := isi_k rfl (by decide +kernel)
@[simp] theorem isi_ss : isiD [.str s, .ty "str"] = some (.bl true) := isi_k rfl (by decide +kernel)
@[simp] theorem isi_ns : isiD [.non, .ty "str"] = some (.bl false) := isi_k rfl (by decide +kernel)
@[simp] theorem isi_tt : isiD [.tup l, .ty "tuple"] = some (.bl true) := isi_k rfl (by decide +kernel)
@[simp] theorem isi_it : isiD [.int i, .ty "tuple"] = some (.bl false) := isi_k rfl (by decide +kernel)
@[simp] theorem isi_bt : isiD [.bl b, .ty "tuple"] = some (.bl false) := isi_k rfl (by decide +kernel)
@[simp] theorem isi_st : isiD [.str s, .ty "tuple"] = some (.bl false) := isi_k rfl (by decide +kernel)
@[simp] theorem isi_nt : isiD [.non, .ty "tuple"] = some (.bl false) := isi_k rfl (by decide +kernel)
@[simp] theorem isi_lt : isiD [.lst l, .ty "tuple"] = some (.bl false) := isi_k rfl (by decide +kernel)
@[simp] theorem eqD_ii : eqD (.int i) (.int j) = some (.bl (decide (i = j))) := (rfl)
@[simp] theorem eqD_ss : eqD (.str s) (.str z) = some (.bl (decide (s = z))) := (rfl)
@[simp] theorem eqD_is : eqD (.int i) (.str z) = some (.bl false) := (rfl)
@[simp] theorem eqD_si : eqD (.str s) (.int i) = some (.bl false) := (rfl)
@[simp] theorem eqD_nn : eqD .non .non = some (.bl true) := (rfl)
@[simp] theorem eqD_ni : eqD .non (.int i) = some (.bl false) := (rfl)
@[simp] theorem eqD_in : eqD (.int i) .non = some (.bl false) := (rfl)
@[simp] theorem eqD_bb (c : Bool) : eqD (.bl b) (.bl c) = some (.bl (decide (b = c))) := (rfl)
@[simp] theorem neD_ii : neD (.int i) (.int j) = some (.bl (!decide (i = j))) := (rfl)
@[simp] theorem neD_ss : neD (.str s) (.str z) = some (.bl (!decide (s = z))) := (rfl)
@[simp] theorem neD_is : neD (.int i) (.str z) = some (.bl true) := (rfl)
@[simp] theorem neD_si : neD (.str s) (.int i) = some (.bl true) := (rfl)
end
/-! ### loops by a word -/
theorem forGo_cons (T : D → List Sl → Option (List Sl)) (b : List Sl → Out) (d : D) (r : List D) (env : List Sl) : forGo T b (d :: r) env = (match T d env with
    | none => .un
    | some e1 => match b e1 with
      | .nx e => forGo T b r e
      | .ct e => forGo T b r e
      | .bk e => .nx e
      | .rt v => .rt v
      | .rs x e => .rs x e
      | .un => .un) := rfl
/-- it goes on, and the word is kept -/
def GoOn (W : List Sl → Prop) : Out → Prop
  | .nx e => W e
  | .ct e => W e
  | _ => False
@[simp] theorem GoOn_nx (W : List Sl → Prop) (e : List Sl) : GoOn W (.nx e) = W e := (rfl)
@[simp] theorem GoOn_ct (W : List Sl → Prop) (e : List Sl) : GoOn W (.ct e) = W e := (rfl)
/-- every turn goes on, and the word W (of the items taken) is kept -/
theorem forGo_inv {T : D → List Sl → Option (List Sl)} {b : List Sl → Out} (W : List D → List Sl → Prop) : ∀ (l pre : List D) (env : List Sl), W pre env →
    (∀ pre' d e, (∃ post, pre ++ l = pre' ++ d :: post) → W pre' e → ∃ e1, T d e = some e1 ∧ GoOn (W (pre' ++ [d])) (b e1)) → ∃ e, forGo T b l env = .nx e ∧ W (pre ++ l) e
  | [], pre, env, h, _ => ⟨env, rfl, by rw [List.append_nil]; exact h⟩
  | d :: r, pre, env, h, step => by
    obtain ⟨e1, h1, h2⟩ := step pre d env ⟨r, rfl⟩ h
    have go : ∀ e2, W (pre ++ [d]) e2 → ∃ e, forGo T b r e2 = .nx e ∧ W (pre ++ d :: r) e := fun e2 h3 => by
      have ih := forGo_inv W r (pre ++ [d]) e2 h3 fun pre' d' e ⟨post, q⟩ w => step pre' d' e ⟨post, by rw [← q, List.append_assoc]; rfl⟩ w
      rw [List.append_assoc] at ih
      exact ih
    rw [forGo_cons, h1]
    dsimp only
    cases q : b e1 with
    | nx e2 => rw [q] at h2; exact go e2 h2
    | ct e2 => rw [q] at h2; exact go e2 h2
    | bk e2 => rw [q] at h2; exact h2.elim
    | rt e2 => rw [q] at h2; exact h2.elim
    | rs x e2 => rw [q] at h2; exact h2.elim
    | un => rw [q] at h2; exact h2.elim
/-- .. where only the items matter -/
theorem forGo_all {T : D → List Sl → Option (List Sl)} {b : List Sl → Out} {l : List D} {env : List Sl} (W : List Sl → Prop) (h : W env)
    (step : ∀ d ∈ l, ∀ e, W e → ∃ e1, T d e = some e1 ∧ GoOn W (b e1)) : ∃ e, forGo T b l env = .nx e ∧ W e :=
  forGo_inv (fun _ e => W e) l [] env h fun pre d e ⟨post, q⟩ w => step d (by rw [List.nil_append] at q; rw [q]; simp) e w
/-- a loop by the number of turns: W i holds ahead of turn i; or it ends in a turn, and R tells how -/
theorem for_gen {T : D → List Sl → Option (List Sl)} {b : List Sl → Out} {env : List Sl} {o : Out} (W : Nat → List Sl → Prop) (R : Out → Prop) : ∀ {l : List D} (k : Nat), forGo T b l env = o → W k env →
    (∀ (i : Nat) d e, l[i]? = some d → W (k + i) e → ∃ e1, T d e = some e1 ∧ (GoOn (W (k + i + 1)) (b e1) ∨ (∃ e2, b e1 = .bk e2 ∧ R (.nx e2)) ∨ (∃ v, b e1 = .rt v ∧ R (.rt v)) ∨ ∃ x e2, b e1 = .rs x e2 ∧ R (.rs x e2))) →
    (∃ e, o = .nx e ∧ W (k + l.length) e) ∨ R o := by
  intro l
  induction l generalizing env with
  | nil => exact fun k h w _ => .inl ⟨env, h.symm, w⟩
  | cons d r ih =>
    intro k h w step
    obtain ⟨e1, h1, h2⟩ := step 0 d env rfl w
    rw [forGo_cons, h1] at h
    dsimp only at h
    have go : ∀ e2, forGo T b r e2 = o → W (k + 1) e2 → (∃ e, o = .nx e ∧ W (k + (d :: r).length) e) ∨ R o := fun e2 q w2 => by
      have z := ih (k + 1) q w2 fun i d' e g w3 => by
        have := step (i + 1) d' e g (by rw [show k + (i + 1) = k + 1 + i by omega]; exact w3)
        rw [show k + (i + 1) = k + 1 + i by omega] at this
        exact this
      rw [List.length_cons, show k + (r.length + 1) = k + 1 + r.length by omega]
      exact z
    rcases h2 with h2 | ⟨e2, q, h2⟩ | ⟨v, q, h2⟩ | ⟨x, e2, q, h2⟩
    · cases q : b e1 with
      | nx e2 => rw [q] at h h2; exact go e2 h h2
      | ct e2 => rw [q] at h h2; exact go e2 h h2
      | bk e2 => rw [q] at h2; exact h2.elim
      | rt e2 => rw [q] at h2; exact h2.elim
      | rs x e2 => rw [q] at h2; exact h2.elim
      | un => rw [q] at h2; exact h2.elim
    · rw [q] at h; rw [← h]; exact .inr h2
    · rw [q] at h; rw [← h]; exact .inr h2
    · rw [q] at h; rw [← h]; exact .inr h2
/-- .. every turn goes on -/
theorem for_ix {T : D → List Sl → Option (List Sl)} {b : List Sl → Out} {env : List Sl} {o : Out} {l : List D} (h : forGo T b l env = o) (W : Nat → List Sl → Prop) (h0 : W 0 env)
    (step : ∀ (i : Nat) d e, l[i]? = some d → W i e → ∃ e1, T d e = some e1 ∧ GoOn (W (i + 1)) (b e1)) : ∃ e, o = .nx e ∧ W l.length e := by
  have z := for_gen (l := l) W (fun _ => False) 0 h h0 fun i d e g w => by
    rw [Nat.zero_add] at w ⊢
    obtain ⟨e1, h1, h2⟩ := step i d e g w
    exact ⟨e1, h1, .inl h2⟩
  rw [Nat.zero_add] at z
  exact z.resolve_right fun z => z
/-- .. over a range -/
theorem range_at {n i : Nat} {d : D} {f : Nat → D} (h : ((List.range n).map f)[i]? = some d) : i < n ∧ d = f i := by
  rw [List.getElem?_map] at h
  by_cases hi : i < n
  · rw [List.getElem?_range hi] at h
    exact ⟨hi, (Option.some.inj h).symm⟩
  · rw [List.getElem?_eq_none (by rw [List.length_range]; omega)] at h
    cases h
theorem ints_at {l : List Int} {i : Nat} {d : D} (h : (l.map D.int)[i]? = some d) : ∃ x, l[i]? = some x ∧ d = .int x := by
  rw [List.getElem?_map] at h
  cases q : l[i]? with
  | none => rw [q] at h; cases h
  | some x => rw [q] at h; exact ⟨x, rfl, (Option.some.inj h).symm⟩
theorem range1D_n {n : Nat} (h : n < 2 ^ 62) : range1D (.int (n : Int)) = some ((List.range n).map fun (i : Nat) => .int (i : Int), false) := by
  unfold range1D
  dsimp only
  rw [if_pos (by omega), Int.toNat_natCast]
theorem range1D_i {j : Int} (h : -(2 ^ 62) ≤ j ∧ j < 2 ^ 62) : range1D (.int j) = some ((List.range j.toNat).map fun (i : Nat) => .int (i : Int), false) := if_pos h
theorem range2D_i {i j : Int} (h : -(2 ^ 62) ≤ i ∧ i < 2 ^ 62 ∧ -(2 ^ 62) ≤ j ∧ j < 2 ^ 62) : range2D (.int i) (.int j) = some ((List.range (j - i).toNat).map fun (k : Nat) => .int (i + (k : Int)), false) := if_pos h
@[simp] theorem lfs_map_int {α : Type} (f : α → Int) (l : List α) : lfs (l.map fun i => D.int (f i)) = true := by
  induction l with
  | nil => rfl
  | cons a l ih => rw [List.map_cons, lfs_cons, ih]; rfl
/-- a value of this kind comes back -/
def OkP (P : D → Prop) : Oc D → Prop
  | .ok d => P d
  | _ => False
@[simp] theorem OkP_ok (P : D → Prop) (d : D) : OkP P (.ok d) = P d := (rfl)
theorem OkP.get {P : D → Prop} {o : Oc D} (h : OkP P o) : ∃ d, o = .ok d ∧ P d := by
  cases o with
  | ok d => exact ⟨d, rfl, h⟩
  | er x => exact h.elim
  | un => exact h.elim
/-- what the body hands back -/
def outD : Out → Oc D
  | .rt d => .ok d
  | .nx _ => .ok .non
  | .rs x _ => .er x
  | _ => .un
@[simp] theorem outD_rt (d : D) : outD (.rt d) = .ok d := (rfl)
@[simp] theorem outD_nx (e : List Sl) : outD (.nx e) = .ok .non := (rfl)
@[simp] theorem outD_rs (x : D) (e : List Sl) : outD (.rs x e) = .er x := (rfl)
@[simp] theorem runB_eq (n : Nat) (g : List Sl → Out) (ds : List D) : runB n g ds = outD (g (sl0 n ds)) := by
  unfold runB outD
  rfl
@[simp] theorem sl0_eq (n : Nat) (ds : List D) : sl0 n ds = ds.map Sl.sh ++ List.replicate (n - ds.length) Sl.no := (rfl)
/-! ### sizes -/
theorem MulB_of {i j : Int} (hi : i.natAbs < 2 ^ 250) (hj : j.natAbs < 2 ^ 250) : MulB i j := by
  have x := PySem.Flt.log2_lt_of (by decide : 0 < 250) hi
  have y := PySem.Flt.log2_lt_of (by decide : 0 < 250) hj
  unfold MulB
  omega
theorem DvB_of {j : Int} (h : 0 < j) (hj : j.natAbs < 2 ^ 250) : DvB j := by
  have y := PySem.Flt.log2_lt_of (by decide : 0 < 250) hj
  exact ⟨h, by omega⟩
theorem atI_in {α : Type} {l : List α} {k : Int} (h0 : 0 ≤ k) (h1 : k < (l.length : Int)) : ∃ x, L2.atI l k = some x ∧ l[k.toNat]? = some x := by
  have hk : k.toNat < l.length := by omega
  refine ⟨l[k.toNat], ?_, List.getElem?_eq_getElem hk⟩
  unfold L2.atI L2.ixN
  rw [if_pos h0, if_pos h1]
  exact List.getElem?_eq_getElem hk
@[simp] theorem ixD_scr (l : List Int) (i : Int) : ixD (.scr l) (.int i) = (L2.atI l i).map D.int := (rfl)
@[simp] theorem ixD_lst (l : List D) (i : Int) : ixD (.lst l) (.int i) = L2.atI l i := (rfl)
@[simp] theorem ixD_tup (l : List D) (i : Int) : ixD (.tup l) (.int i) = L2.atI l i := (rfl)
theorem atI_of {α : Type} {l : List α} {n : Nat} {k : Int} {x : α} (h : l[n]? = some x) (e : k = (n : Int)) : L2.atI l k = some x := by rw [e]; exact L2.atI_nat h
/-! ### slots that own nothing -/
def so : Option D → Sl
  | some d => .sh d
  | none => .no
@[simp] theorem frz1_so (p : Nat → Bool) (k : Nat) (x : Option D) : frz1 p k (so x) = so x := by cases x <;> rfl
@[simp] theorem shv_so (x : Option D) : shv (so x) = x := by cases x <;> rfl
def Sh : Sl → Prop := fun s => ∃ x, s = so x
@[simp] theorem Sh_sh (d : D) : Sh (.sh d) = True := eq_true ⟨some d, rfl⟩
@[simp] theorem Sh_no : Sh .no = True := eq_true ⟨none, rfl⟩
@[simp] theorem Sh_so (x : Option D) : Sh (so x) = True := eq_true ⟨x, rfl⟩
/-- n slots, none of them owning a list -/
def Al : Nat → List Sl → Prop
  | 0, e => e = []
  | n + 1, e => ∃ x r, e = so x :: r ∧ Al n r
@[simp] theorem Al_nil : Al 0 [] = True := eq_true rfl
@[simp] theorem Al_cons (n : Nat) (s : Sl) (r : List Sl) : Al (n + 1) (s :: r) = (Sh s ∧ Al n r) := by
  refine propext ⟨fun ⟨x, r', e, h⟩ => ?_, fun ⟨⟨x, e⟩, h⟩ => ⟨x, r, by rw [e], h⟩⟩
  cases e
  exact ⟨⟨x, rfl⟩, h⟩
@[simp] theorem ite_ok {α : Type} {c : Prop} [Decidable c] (a b : α) : (if c then Oc.ok a else Oc.ok b) = Oc.ok (if c then a else b) := by split <;> rfl
@[simp] theorem ite_int {c : Prop} [Decidable c] (a b : Int) : (if c then D.int a else D.int b) = D.int (if c then a else b) := by split <;> rfl
@[simp] theorem ite_bl {c : Prop} [Decidable c] (a b : Bool) : (if c then D.bl a else D.bl b) = D.bl (if c then a else b) := by split <;> rfl
theorem atI_eq {α : Type} (l : List α) (n : Nat) : L2.atI l (n : Int) = l[n]? := by
  unfold L2.atI L2.ixN
  by_cases h : n < l.length
  · simp [h]
  · simp [h, List.getElem?_eq_none (Nat.le_of_not_lt h)]
@[simp] theorem atI_lit {α : Type} (l : List α) (n : Nat) : L2.atI l (no_index (OfNat.ofNat n : Int)) = l[n]? := atI_eq l n
theorem GoOn_seq {W : List Sl → Prop} {o : Out} {g : List Sl → Out} (e : List Sl) (h : o = .nx e) (k : GoOn W (g e)) : GoOn W (o.seq g) := by rw [h]; exact k
theorem seq_to {o u : Out} {g : List Sl → Out} (e : List Sl) (h : o = .nx e) (k : g e = u) : o.seq g = u := by rw [h]; exact k
@[simp] theorem ite_or (a b : Bool) : (if a = true then a else b) = (a || b) := by cases a <;> rfl
@[simp] theorem ite_and (a b : Bool) : (if a = true then b else a) = (a && b) := by cases a <;> rfl
end Sem

namespace Sem
open PySem PySem.Spec L2
/-! ### list comprehensions -/
def Oc.toO {α : Type} : Oc α → Option α
  | .ok a => some a
  | _ => none
@[simp] theorem Oc.toO_ok {α : Type} (a : α) : (Oc.ok a).toO = some a := (rfl)
@[simp] theorem Oc.toO_un {α : Type} : (Oc.un : Oc α).toO = none := (rfl)
@[simp] theorem Oc.toO_er {α : Type} (x : D) : (Oc.er x : Oc α).toO = none := (rfl)
def wipeE (env : En) : List Nat → En
  | [] => env
  | v :: vs => (wipeE env vs).set v none
@[simp] theorem wipeE_nil (env : En) : wipeE env [] = env := (rfl)
@[simp] theorem wipeE_cons (env : En) (v : Nat) (vs : List Nat) : wipeE env (v :: vs) = (wipeE env vs).set v none := (rfl)
theorem wipeE_some {env : En} {i : Nat} {d : D} : ∀ {vs : List Nat}, (wipeE env vs)[i]? = some (some d) → env[i]? = some (some d) ∧ i ∉ vs
  | [], h => ⟨h, by simp⟩
  | v :: vs, h => by
    unfold wipeE at h
    by_cases hi : i = v
    · subst hi
      by_cases hv : i < (wipeE env vs).length
      · rw [List.getElem?_set_self hv] at h; cases h
      · rw [List.getElem?_eq_none (by simpa using hv)] at h; cases h
    · rw [List.getElem?_set_ne (Ne.symm hi)] at h
      obtain ⟨h1, h2⟩ := wipeE_some h
      exact ⟨h1, by simp only [List.mem_cons, not_or]; exact ⟨hi, h2⟩⟩
theorem wipe_in {σ : L2.St} {i : Nat} : ∀ {vs : List Nat}, i ∈ vs → (wipe σ vs)[i]? = (σ[i]?).map fun _ => none
  | [], h => by simp at h
  | v :: vs, h => by
    unfold wipe
    by_cases hi : i = v
    · subst hi
      by_cases hv : i < σ.length
      · rw [List.getElem?_set_self (by rw [wipe_length]; exact hv), List.getElem?_eq_getElem hv]; rfl
      · rw [List.getElem?_eq_none (by rw [List.length_set, wipe_length]; omega), List.getElem?_eq_none (by omega)]; rfl
    · rw [List.getElem?_set_ne (Ne.symm hi)]
      exact wipe_in ((List.mem_cons.mp h).resolve_left hi)
theorem wipe_eq {σ σ' : L2.St} {vs : List Nat} (hl : σ'.length = σ.length) (h : ∀ i, i ∉ vs → σ'[i]? = σ[i]?) : wipe σ' vs = wipe σ vs := by
  refine List.ext_getElem? fun i => ?_
  by_cases hi : i ∈ vs
  · rw [wipe_in hi, wipe_in hi]
    by_cases hv : i < σ.length
    · rw [List.getElem?_eq_getElem hv, List.getElem?_eq_getElem (by omega)]; rfl
    · rw [List.getElem?_eq_none (by omega), List.getElem?_eq_none (by omega)]
  · rw [wipe_out hi, wipe_out hi, h i hi]
theorem wipe_idem (σ : L2.St) (vs : List Nat) : wipe (wipe σ vs) vs = wipe σ vs := wipe_eq (wipe_length _ _) fun i hi => wipe_out hi
section
variable (K : PySem.W.Frag) (mg : Str → Option Value)
/-- a comprehension's target: nothing but the slots vs is changed -/
def tGc (vs : List Nat) (T : D → En → Option En) : TG := fun v σ H Q => ∃ Hf env d env', Same Hf H ∧ EnR K mg Hf env σ ∧ Rep K mg Hf d v ∧ T d env = some env' ∧ ∀ σ', EnR K mg Hf env' σ' → wipe σ' vs = wipe σ vs → Q σ' H
def tGcs (vs : List Nat) (T : List D → En → Option En) : TGs := fun v σ H Q => ∃ Hf env d env', Same Hf H ∧ EnR K mg Hf env σ ∧ Reps K mg Hf d v ∧ T d env = some env' ∧ ∀ σ', EnR K mg Hf env' σ' → wipe σ' vs = wipe σ vs → Q σ' H
end
def PGc (X : Cx) (vs : List Nat) (tg : Expr) (T : D → En → Option En) : Prop := PG X tg (tGc X.K X.mg vs T)
def PGcs (X : Cx) (vs : List Nat) (tg : List Expr) (T : List D → En → Option En) : Prop := PGs X tg (tGcs X.K X.mg vs T)
theorem pg_impI {X : Cx} {tg : Expr} {t t' : TG} (h : PG X tg t) (i : ∀ v σ H Q, σ.length = X.N.length → t' v σ H Q → t v σ H Q) : PG X tg t' := ⟨fun pins s σ H v u Q I r w => h.run pins s σ H v u Q I r (i _ _ _ _ I.len w)⟩
def kN (i : Nat) : D → En → Option En := fun d env => some (env.set i (some d))
def ksNil : List D → En → Option En := fun ds env => match ds with | [] => some env | _ => none
def ksCons (T : D → En → Option En) (Ts : List D → En → Option En) : List D → En → Option En := fun ds env => match ds with | d :: r => (T d env).bind fun e1 => Ts r e1 | [] => none
def kT (n : Nat) (Ts : List D → En → Option En) : D → En → Option En := fun d env => match d with | .tup ds => if ds.length = n then Ts ds env else none | _ => none
@[simp] theorem kN_ap (i : Nat) (d : D) (env : En) : kN i d env = some (env.set i (some d)) := (rfl)
@[simp] theorem ksNil_ap (env : En) : ksNil [] env = some env := (rfl)
@[simp] theorem ksCons_ap (T : D → En → Option En) (Ts : List D → En → Option En) (d : D) (r : List D) (env : En) : ksCons T Ts (d :: r) env = (T d env).bind fun e1 => Ts r e1 := (rfl)
@[simp] theorem kT_ap (n : Nat) (Ts : List D → En → Option En) (ds : List D) (env : En) : kT n Ts (.tup ds) env = if ds.length = n then Ts ds env else none := (rfl)
section
variable {X : Cx} {pos : Pos} {vs : List Nat}
theorem k_n (i : Nat) {x : Str} (hN : X.N.Nodup) (hv : i ∈ vs := by decide) (hi : X.N[i]? = some x := by rfl) (hx : Loc X.env.scope x := by first | exact Or.inl rfl | exact Or.inr rfl) (hf : X.fn x = true ∨ X.env.scope.names.lookup x = some .local := by first | exact .inl rfl | exact .inr rfl | assumption) :
    PGc X vs (.Name x pos) (kN i) :=
  pg_impI (pg_name (i := i) hN hi hx hf) fun v σ H Q hl ⟨Hf, env, d, env', s, r, rd, hT, k⟩ => by
    cases hT
    have hlt : i < σ.length := by rw [hl]; exact (List.getElem?_eq_some_iff.mp hi).1
    refine k _ (fun j d' e => ?_) (wipe_eq (List.length_set ..) fun j hj => ?_)
    · rcases set_at e with ⟨rfl, _, e2⟩ | ⟨hj, e2⟩
      · cases e2
        exact ⟨v, List.getElem?_set_self hlt, rd⟩
      · obtain ⟨w, h1, h2⟩ := r j d' e2
        exact ⟨w, by rw [List.getElem?_set_ne (Ne.symm hj)]; exact h1, h2⟩
    · rw [List.getElem?_set_ne (fun z => hj (by rw [← z]; exact hv))]
theorem ks_nil : PGcs X vs [] ksNil :=
  pgs_imp pgs_nil fun v σ H Q ⟨Hf, env, ds, env', s, r, rd, hT, k⟩ => by
    cases ds with
    | nil =>
      unfold Reps at rd
      cases hT
      exact ⟨rd, k _ r rfl⟩
    | cons d l => cases hT
theorem ks_cons {tg : Expr} {tgs : List Expr} {T : D → En → Option En} {Ts : List D → En → Option En} (h1 : PGc X vs tg T) (h2 : PGcs X vs tgs Ts) (ht : (assignEach (tg :: tgs) X.env).map (·.2) = assign tg X.env :: (assignEach tgs X.env).map (·.2) := by rfl) :
    PGcs X vs (tg :: tgs) (ksCons T Ts) :=
  pgs_imp (pgs_cons h1 h2 ht) fun v σ H Q ⟨Hf, env, ds, env', s, r, rd, hT, k⟩ => by
    cases ds with
    | nil => cases hT
    | cons d l =>
      unfold Reps at rd
      obtain ⟨x, rr, e1, e2, e3⟩ := rd
      dsimp only [ksCons] at hT
      cases q : T d env with
      | none => rw [q] at hT; cases hT
      | some e2' =>
        rw [q] at hT
        exact ⟨x, rr, e1, Hf, env, d, e2', s, r, e2, q, fun σ' r' w' => ⟨Hf, e2', l, env', s, r', e3, hT, fun σ'' r'' w'' => k σ'' r'' (w''.trans w')⟩⟩
theorem k_t {es : List Expr} {kd : Nat} {Ts : List D → En → Option En} {n : Nat} (hc : X.calm = true) (h : PGcs X vs es Ts) (hn : (assignEach es X.env).length = n := by rfl) (hst : (assignEach es X.env).findIdx? (·.1) = none := by rfl) :
    PGc X vs (.Tuple es kd pos) (kT n Ts) := by
  refine pg_imp (pg_tup hc h hn hst) fun v σ H Q ⟨Hf, env, d, env', s, r, rd, hT, k⟩ => ?_
  cases d with
  | tup ds =>
    dsimp only [kT] at hT
    by_cases hl : ds.length = n
    · rw [if_pos hl] at hT
      unfold Rep at rd
      obtain ⟨p, xs, rfl, h1, h2⟩ := rd
      exact ⟨p, xs, rfl, same_t s h1, by rw [h2.len, hl], Hf, env, ds, env', s, r, h2, hT, k⟩
    · rw [if_neg hl] at hT; cases hT
  | _ => cases hT
end
/-- the items of a comprehension -/
def lcL (T : D → En → Option En) (ft : En → Oc Bool) (fe : En → Oc D) (env : En) : List D → Option (List D)
  | [] => some []
  | d :: l => (T d env).bind fun e1 => (ft e1).toO.bind fun b => if b = true then (fe e1).toO.bind fun y => (lcL T ft fe env l).bind fun ys => some (y :: ys) else lcL T ft fe env l
def cYes : En → Oc Bool := fun _ => .ok true
@[simp] theorem cYes_ap (env : En) : cYes env = .ok true := (rfl)
def nLc (T : D → En → Option En) (vs : List Nat) (fi : En → Oc (List D × Bool)) (ft : En → Oc Bool) (fe : En → Oc D) : En → Oc (List D) := fun env => (fi env).bind fun lk => (Oc.ofO (lcL T ft fe (wipeE env vs) lk.1)).bind fun ys => if ys.length ≤ 1000000 then .ok ys else .un
@[simp] theorem nLc_ap (T : D → En → Option En) (vs : List Nat) (fi : En → Oc (List D × Bool)) (ft : En → Oc Bool) (fe : En → Oc D) (env : En) : nLc T vs fi ft fe env = (fi env).bind fun lk => (Oc.ofO (lcL T ft fe (wipeE env vs) lk.1)).bind fun ys => if ys.length ≤ 1000000 then .ok ys else .un := (rfl)
abbrev noE : WX := fun _ _ _ _ => False
section
variable {K : PySem.W.Frag} {mg : Str → Option Value} {E : WX}
theorem EnR.wiped {Hf : Hp} {env : En} {σ : L2.St} (r : EnR K mg Hf env σ) (vs : List Nat) : EnR K mg Hf (wipeE env vs) (wipe σ vs) := fun i d e => by
  obtain ⟨h1, h2⟩ := wipeE_some e
  obtain ⟨v, g1, g2⟩ := r i d h1
  exact ⟨v, by rw [wipe_out h2]; exact g1, g2⟩
theorem lc_in {T : D → En → Option En} {vs : List Nat} {fi : En → Oc (List D × Bool)} {ft : En → Oc Bool} {fe : En → Oc D} {σ : L2.St} {H : Hp} {Q : VK} (w : tDN K mg E (nLc T vs fi ft fe) σ H Q) :
    tLc (tI K mg E fi) (tGc K mg vs T) (tDB K mg noE ft) (tD K mg noE fe) vs σ H Q := by
  obtain ⟨Hf, env, s, r, af⟩ := w
  refine ⟨Hf, env, s, r, ?_⟩
  unfold nLc at af
  cases q : fi env with
  | un => rw [q] at af; exact af
  | er x => rw [q] at af; exact af
  | ok lk =>
    rw [q] at af
    have af : AfN K mg E Hf H σ Q ((Oc.ofO (lcL T ft fe (wipeE env vs) lk.1)).bind fun ys => if ys.length ≤ 1000000 then .ok ys else .un) := af
    cases q2 : lcL T ft fe (wipeE env vs) lk.1 with
    | none => rw [q2] at af; exact af.elim
    | some ys =>
      rw [q2] at af
      have af : AfN K mg E Hf H σ Q (if ys.length ≤ 1000000 then .ok ys else .un) := af
      have hz : ys.length ≤ 1000000 := Decidable.byContradiction fun hz => by rw [if_neg hz] at af; exact af
      rw [if_pos hz] at af
      intro J Hf1 H1 fr1 it _ L hL
      have e0 : EnR K mg Hf1 (wipeE env vs) (wipe σ vs) := (r.mono fr1.ff).wiped vs
      refine ⟨fun i m H => m = lk.1.length - i ∧ i ≤ lk.1.length ∧ ∃ Hg acc dacc rest, Fr Hf1 H1 Hg H ∧ Hg L = none ∧ H L = some (.lst acc) ∧ Reps K mg Hg dacc acc ∧ lcL T ft fe (wipeE env vs) (lk.1.drop i) = some rest ∧ dacc ++ rest = ys,
        ⟨lk.1.length, by simp, Nat.zero_le _, Hf1, [], [], ys, Fr.le fr1.fh fun b o e => by rw [upd_ne (ne_of_none e hL)]; exact e, fr1.fh.free hL, upd_same, Reps.nil, by rw [List.drop_zero]; exact q2, rfl⟩, ?_⟩
      rintro i m H ⟨rfl, hi, Hg, acc, dacc, rest, fr, gn, hl, ra, hr, hy⟩
      obtain ⟨istop, igo⟩ := it H (fr.ff.trans fr.fh)
      by_cases hlt : i < lk.1.length
      · obtain ⟨go, yl⟩ := igo i lk.1[i] (List.getElem?_eq_getElem hlt)
        refine .inr ⟨go, fun H' => ∃ Hg acc dacc rest, Fr Hf1 H1 Hg H' ∧ Hg L = none ∧ H' L = some (.lst acc) ∧ Reps K mg Hg dacc acc ∧ lcL T ft fe (wipeE env vs) (lk.1.drop (i + 1)) = some rest ∧ dacc ++ rest = ys,
          fun H' n => ⟨lk.1.length - (i + 1), by omega, rfl, hlt, n⟩, fun x H' y => ?_⟩
        obtain ⟨Hg', fr', rx⟩ := yl Hg fr.ff fr.fh x H' y
        rw [List.drop_eq_getElem_cons hlt] at hr
        unfold lcL at hr
        cases z : T lk.1[i] (wipeE env vs) with
        | none => rw [z] at hr; cases hr
        | some e1 =>
          rw [z] at hr
          refine ⟨Hg', wipeE env vs, lk.1[i], e1, fr'.fh, e0.mono (fr.ff.trans fr'.ff), rx, z, fun σ2 r2 hw => ⟨hw.trans (wipe_idem _ _), Hg', e1, fr'.fh, r2, ?_⟩⟩
          have hr : ((ft e1).toO.bind fun b => if b = true then (fe e1).toO.bind fun y => (lcL T ft fe (wipeE env vs) (lk.1.drop (i + 1))).bind fun ys => some (y :: ys) else lcL T ft fe (wipeE env vs) (lk.1.drop (i + 1))) = some rest := hr
          cases q3 : ft e1 with
          | un => rw [q3] at hr; cases hr
          | er x => rw [q3] at hr; cases hr
          | ok b =>
            rw [q3] at hr
            intro Hg3 H3 fr3
            have keep : ∀ {Hx Hy : Hp}, Fr Hg H Hx Hy → Hx L = none ∧ Hy L = some (.lst acc) := fun {Hx Hy} f => by
              refine ⟨?_, f.hh _ _ hl⟩
              cases zz : Hx L with
              | none => rfl
              | some o =>
                have := f.nw L gn (by rw [zz]; simp)
                rw [this] at hl; cases hl
            cases b with
            | false =>
              rw [if_neg (by decide)]
              have hr : lcL T ft fe (wipeE env vs) (lk.1.drop (i + 1)) = some rest := hr
              have f := fr'.trans fr3
              obtain ⟨k1, k2⟩ := keep f
              exact ⟨Hg3, acc, dacc, rest, fr.trans f, k1, k2, Reps.mono f.ff _ _ ra, hr, hy⟩
            | true =>
              rw [if_pos rfl]
              refine ⟨Hg3, e1, fr3.fh, r2.mono fr3.ff, ?_⟩
              have hr : ((fe e1).toO.bind fun y => (lcL T ft fe (wipeE env vs) (lk.1.drop (i + 1))).bind fun ys => some (y :: ys)) = some rest := hr
              cases q4 : fe e1 with
              | un => rw [q4] at hr; cases hr
              | er x => rw [q4] at hr; cases hr
              | ok y =>
                rw [q4] at hr
                intro v Hg4 H4 fr4 rv
                have hr : ((lcL T ft fe (wipeE env vs) (lk.1.drop (i + 1))).bind fun ys => some (y :: ys)) = some rest := hr
                cases q5 : lcL T ft fe (wipeE env vs) (lk.1.drop (i + 1)) with
                | none => rw [q5] at hr; cases hr
                | some rest' =>
                  rw [q5] at hr
                  cases hr
                  have f := (fr'.trans fr3).trans fr4
                  obtain ⟨k1, k2⟩ := keep f
                  have ha : acc.length = dacc.length := ra.len
                  refine ⟨acc, k2, ?_, Hg4, acc ++ [v], dacc ++ [y], rest', ?_, k1, upd_same, (Reps.mono f.ff _ _ ra).append (Reps.one rv), rfl, by rw [List.append_assoc]; exact hy⟩
                  · rw [sizeLine_eq, ha]
                    have : (dacc ++ y :: rest').length ≤ 1000000 := by rw [hy]; exact hz
                    rw [List.length_append, List.length_cons] at this
                    omega
                  · have g := fr.trans f
                    exact ⟨g.ff, fun b o e => by rw [upd_ne (ne_of_none e hL)]; exact g.hh _ _ e, fun b o e => by rw [upd_ne (ne_of_none e k1)]; exact g.fh _ _ e, g.nw⟩
      · have e : i = lk.1.length := by omega
        subst e
        refine .inl ⟨istop, ?_⟩
        rw [List.drop_length] at hr
        cases hr
        rw [List.append_nil] at hy
        subst hy
        exact af L acc Hg H (fr1.trans fr) (fr1.hh.free hL) gn hl ra
end
section
variable {X : Cx} {E : WX} {pos : Pos}
theorem l_nil {X : Cx} : PTs X [] (tDB X.K X.mg noE cYes) := ⟨fun pins s σ H Q I ⟨Hf, env, s', r, a⟩ => pts_nil.run pins s σ H Q I (a Hf H (Fr.refl s'))⟩
theorem l_if {X : Cx} {c : Expr} {ft : En → Oc Bool} (h : PTd X noE c ft) : PTs X [c] (tDB X.K X.mg noE ft) := pts_one h
theorem q_lc {elt tg iter : Expr} {ifs : List Expr} {scope : Scope} (own : List (Str × Nat)) {T : D → En → Option En} {fi : En → Oc (List D × Bool)} {ft : En → Oc Bool} {fe : En → Oc D} (hc : X.calm = true) (hN : X.N.Nodup) (ok : BlkOk X.N X.env.scope scope own) (hi : PId X E tg iter fi)
    (hg : ∀ (s : Shared) (H : Hp) (C : Addr) (cl : List (Str × Addr)) (fp : List Addr), PGc (X.blk s H scope (compEnvC scope cl C X.env) fp) (own.map (·.2)) tg T)
    (ht : ∀ (s : Shared) (H : Hp) (C : Addr) (cl : List (Str × Addr)) (fp : List Addr), PTs (X.blk s H scope (compEnvC scope cl C X.env) fp) ifs (tDB X.K X.mg noE ft))
    (he : ∀ (s : Shared) (H : Hp) (C : Addr) (cl : List (Str × Addr)) (fp : List Addr), PEd (X.blk s H scope (compEnvC scope cl C X.env) fp) noE elt fe) (hs : ∀ x, foldedSetIterable iter X.env x = pure x := by intro _; rfl) :
    PNd X E (.ListComp elt [⟨tg, iter, ifs, 0⟩] scope pos) (nLc T (own.map (·.2)) fi ft fe) :=
  pe_imp (pe_lc (own := own) (g := tGc X.K X.mg (own.map fun z : Str × Nat => z.2) T) (tt := tDB X.K X.mg noE ft) (te := tD X.K X.mg noE fe) hc hN hi ok hg ht he hs) fun σ H Q w => lc_in w
/-- name = [..] of a comprehension -/
theorem s_lc (p : Nat → Bool) {i : Nat} {y : Str} {py : Pos} {elt tg iter : Expr} {ifs : List Expr} {scope : Scope} (own : List (Str × Nat)) {spos : Pos} {T : D → En → Option En} {fi : En → Oc (List D × Bool)} {ft : En → Oc Bool} {fe : En → Oc D} (hc : X.calm = true) (hN : X.N.Nodup) (ok : BlkOk X.N X.env.scope scope own) (hi : PId X E tg iter fi)
    (hg : ∀ (s : Shared) (H : Hp) (C : Addr) (cl : List (Str × Addr)) (fp : List Addr), PGc (X.blk s H scope (compEnvC scope cl C X.env) fp) (own.map (·.2)) tg T)
    (ht : ∀ (s : Shared) (H : Hp) (C : Addr) (cl : List (Str × Addr)) (fp : List Addr), PTs (X.blk s H scope (compEnvC scope cl C X.env) fp) ifs (tDB X.K X.mg noE ft))
    (he : ∀ (s : Shared) (H : Hp) (C : Addr) (cl : List (Str × Addr)) (fp : List Addr), PEd (X.blk s H scope (compEnvC scope cl C X.env) fp) noE elt fe)
    (hsw : swapsWith (.ListComp elt [⟨tg, iter, ifs, 0⟩] scope pos) (some (.Name y py)) spos.line X.env = pure true) (hy : X.N[i]? = some y := by rfl) (hyl : X.env.scope.names.lookup y = some .local := by rfl) (hs : ∀ x, foldedSetIterable iter X.env x = pure x := by intro _; rfl) :
    PSd X E (.Assign [.Name y py] (.ListComp elt [⟨tg, iter, ifs, 0⟩] scope pos) spos) (sNew i p (nLc T (own.map (·.2)) fi ft fe)) :=
  ps_imp (ps_setLc (own := own) (g := tGc X.K X.mg (own.map fun z : Str × Nat => z.2) T) (tt := tDB X.K X.mg noE ft) (te := tD X.K X.mg noE fe) hc hN hy hyl hsw hi ok hg ht he hs) fun D' σ H w => lc_in (new_in w)
end
end Sem

namespace Sem
open PySem PySem.Spec L2
theorem takes_no {X : Cx} : Takes X noE := fun u s' ⟨a, B, sI, pins, σ, H, cls, d, e, I, nb, up, sky, na, os, ag, w⟩ => w.elim
/-! ### two readings of one expression -/
def Oc.alt {α : Type} (a b : Oc α) : Oc α := match a with
  | .un => b
  | r => r
@[simp] theorem alt_ok {α : Type} (a : α) (b : Oc α) : (Oc.ok a).alt b = .ok a := (rfl)
@[simp] theorem alt_er {α : Type} (x : D) (b : Oc α) : (Oc.er x : Oc α).alt b = .er x := (rfl)
@[simp] theorem alt_un {α : Type} (b : Oc α) : (Oc.un : Oc α).alt b = b := (rfl)
def eAlt (f g : En → Oc D) : En → Oc D := fun env => (f env).alt (g env)
@[simp] theorem eAlt_ap (f g : En → Oc D) (env : En) : eAlt f g env = (f env).alt (g env) := (rfl)
theorem alt_cases {α : Type} (a b : Oc α) : a.alt b = a ∨ a.alt b = b := by
  cases a with
  | ok x => exact .inl rfl
  | er x => exact .inl rfl
  | un => exact .inr rfl
theorem q_alt {X : Cx} {E : WX} {e : Expr} {f g : En → Oc D} (h1 : PEd X E e f) (h2 : PEd X E e g) : PEd X E e (eAlt f g) :=
  ⟨fun pins s σ H Q I ⟨Hf, env, sm, r, af⟩ => by
    rcases alt_cases (f env) (g env) with e | e
    · exact h1.run pins s σ H Q I ⟨Hf, env, sm, r, by rw [← e]; exact af⟩
    · exact h2.run pins s σ H Q I ⟨Hf, env, sm, r, by rw [← e]; exact af⟩⟩
/-! ### own classes -/
def isC (c : Str) (ns : List Str) : D → Option (List D)
  | .obj c' ns' vs => if c' = c ∧ ns' = ns then some vs else none
  | _ => none
@[simp] theorem isC_ap (c c' : Str) (ns ns' : List Str) (vs : List D) : isC c ns (.obj c' ns' vs) = if c' = c ∧ ns' = ns then some vs else none := (rfl)
/-- a class of the text: its instances' attributes are not its own names -/
structure ClI (K : PySem.W.Frag) (mg : Str → Option Value) (c : Str) (fs : List Str) : Prop where
  ex : ∃ C, mg c = some (.ref C) ∧ Cls K C ∧ ∀ f ∈ fs, NoAttr K C f
theorem zip_lookup (f : Str) : ∀ (ns : List Str) (xs : List V), ns.length = xs.length → (ns.zip xs).lookup f = xs[ns.idxOf f]?
  | [], [], _ => rfl
  | n :: ns, x :: xs, h => by
    rw [List.zip_cons_cons, List.lookup_cons, List.idxOf_cons]
    by_cases e : n = f
    · subst e
      simp
    · have h1 : (f == n) = false := by simpa using fun z => e z.symm
      have h2 : (n == f) = false := by simpa using e
      rw [h1, h2]
      dsimp only [cond_false]
      rw [List.getElem?_cons_succ]
      exact zip_lookup f ns xs (Nat.succ.inj h)
def fldD (c : Str) (ns : List Str) (i : Nat) : D → Option D := fun d => (isC c ns d).bind fun vs => vs[i]?
@[simp] theorem fldD_ap (c : Str) (ns : List Str) (i : Nat) (d : D) : fldD c ns i d = (isC c ns d).bind fun vs => vs[i]? := (rfl)
section
variable {X : Cx} {E : WX} {pos apos : Pos} {e : Expr} {es : List Expr} {fe : En → Oc D} {fs : En → Oc (List D)}
theorem q_fld {f : Str} (c : Str) (ns : List Str) (i : Nat) {as : List Str} (T : ClI X.K X.mg c as) (he : PEd X E e fe) (hi : ns.idxOf f = i) (hf : f ∈ as := by decide +kernel) (hb : attributeBase e f X.env (eval e X.env) = eval e X.env := by rfl) :
    PEd X E (.Attribute e f pos) (eUn (fldD c ns i) fe) :=
  pe_imp (pe_fld he hb) fun σ H Q ⟨Hf, env, s, r, af⟩ => by
    show tD X.K X.mg E fe σ H fun x H1 => ∃ a C dx fs v, x = .ref a ∧ H1 a = some (.ins C dx fs) ∧ Cls X.K C ∧ NoAttr X.K C f ∧ fs.lookup f = some v ∧ Q v H1
    refine tD_bind s r af fun d v Hf' H' q fr rv af' => ?_
    cases d with
    | obj c' ns' vs =>
      by_cases hc : c' = c ∧ ns' = ns
      · obtain ⟨rfl, rfl⟩ := hc
        cases z : vs[i]? with
        | none => simp [fldD, isC, z] at af'; exact af'.elim
        | some d' =>
          simp [fldD, isC, z] at af'
          unfold Rep at rv
          obtain ⟨a, C, dx, xs, rfl, hm, ha, hl, rs⟩ := rv
          obtain ⟨C', hm', cl, na⟩ := T.ex
          rw [hm] at hm'
          cases hm'
          obtain ⟨w, hw, rw'⟩ := rs.get z
          exact ⟨a, C, dx, _, w, rfl, fr.fh _ _ ha, cl, na f hf, by rw [zip_lookup f _ _ (by rw [hl, rs.len]), hi]; exact hw, af' w Hf' H' (Fr.refl fr.fh) rw'⟩
      · simp [fldD, isC, hc] at af'; exact af'.elim
    | _ => exact af'.elim
/-- a method of the text -/
structure MtI (P : Program) (w : World) (K : PySem.W.Frag) (mg : Str → Option Value) (base : Heap) (k : Nat) (c m : Str) (n : Nat) (mir : List D → Oc D) : Prop where
  ex : ∃ C f fd ps, mg c = some (.ref C) ∧ Cls K C ∧ Meth K C m f ∧ Binds K fd ps [] ∧ FnOk P w K mg base (L2.CX P w) k f fd ps (spD K mg n mir)
def eMeth (c : Str) (ns : List Str) (n : Nat) (mir : List D → Oc D) (fe : En → Oc D) (fs : En → Oc (List D)) : En → Oc D := fun env => (fe env).bind fun o => (Oc.ofO (isC c ns o)).bind fun _ => (fs env).bind fun ds => if ds.length + 1 = n then mir (o :: ds) else .un
@[simp] theorem eMeth_ap (c : Str) (ns : List Str) (n : Nat) (mir : List D → Oc D) (fe : En → Oc D) (fs : En → Oc (List D)) (env : En) : eMeth c ns n mir fe fs env = (fe env).bind fun o => (Oc.ofO (isC c ns o)).bind fun _ => (fs env).bind fun ds => if ds.length + 1 = n then mir (o :: ds) else .un := (rfl)
end
section
variable {X : Cx} {k : Nat} {f C : Addr} {fd : FuncData} {ps : List Str} {sp : Sp} {E0 : L2.St → XK} {x m : Str} {p pos apos : Pos} {e o : Expr} {es : List Expr} {ta : TE} {t : TA}
/-- o.m(..), what is raised wished for at the caller's slots -/
def tMethAt (C : Addr) (m : Str) (sp : Sp) (E0 : L2.St → XK) (ta : TE) (t : TA) : TE := fun σ H Q => ta σ H fun x H1 => ∃ a dx fs, x = .ref a ∧ H1 a = some (.ins C dx fs) ∧ fs.lookup m = none ∧
  t σ H1 fun vs H2 => sp (x :: vs) H2 Q (E0 σ)
theorem pe_methAt {pl : Sem Bool} (ho : PE X o ta) (cl : Cls X.K C) (hm : Meth X.K C m f) (F : FnOk X.prog X.w X.K X.mg X.base (L2.CX X.prog X.w) k f fd ps sp) (hr : Room k X.A) (hb : Binds X.K fd ps []) (hx : ∀ σ, PassesAt (L2.CX X.prog X.w) X σ (E0 σ)) (ha : PA X (e :: es) t)
    (hst : starEach (e :: es) X.env = (false, eval e X.env) :: starEach es X.env) (hpl : (backTo pos (starEach es X.env)).any (·.1) = false)
    (ht : eval (.Call (.Attribute o m apos) (e :: es) [] pos) X.env = (do
      let self ← eval o X.env
      standAt apos.atName
      let (g, fst) ← holding [self] (getMethod self m pl)
      callWith pos g fst (backTo pos (starEach (e :: es) X.env)) (backToKw pos (keywordEach [] X.env)))) : PE X (.Call (.Attribute o m apos) (e :: es) [] pos) (tMethAt C m sp E0 ta t) := by
  constructor
  intro pins s σ H Q I w
  refine PySem.W.methodCall_KW (pl := pl) (thn (ho.run pins s σ H _ I w) ?_) ht
  rintro u s1 ⟨y, H1, I1, ry, a, dx, fs, rfl, ea, hl, q⟩
  cases (show u = Value.ref a from ry)
  refine getmeth_ok I1 ea cl hm hl (PySem.W.callWith_K (first := [.ref a]) (h₀ := X.base) I.ok.mod.kin hm.kp (thn (ha.run pos pins s1 σ H1 _ I1 q) ?_) hst hpl)
  rintro us s2 ⟨vs, H2, I2, r, q2⟩
  refine ⟨I2.kIn, run_fnSD (us := .ref a :: us) (vs := .ref a :: vs) (E := E0) (dvs := []) F hr hb .nil (hx σ) I2 (.cons rfl r) ?_⟩
  rw [List.append_nil]
  exact q2
theorem pe_methAt0 {pl : Sem Bool} (ho : PE X o ta) (cl : Cls X.K C) (hm : Meth X.K C m f) (F : FnOk X.prog X.w X.K X.mg X.base (L2.CX X.prog X.w) k f fd ps sp) (hr : Room k X.A) (hb : Binds X.K fd ps []) (hx : ∀ σ, PassesAt (L2.CX X.prog X.w) X σ (E0 σ))
    (ht : eval (.Call (.Attribute o m apos) [] [] pos) X.env = (do
      let self ← eval o X.env
      standAt apos.atName
      let (g, fst) ← holding [self] (getMethod self m pl)
      callWith pos g fst (backTo pos (starEach [] X.env)) (backToKw pos (keywordEach [] X.env)))) : PE X (.Call (.Attribute o m apos) [] [] pos) (tMethAt C m sp E0 ta tNil) := by
  constructor
  intro pins s σ H Q I w
  refine PySem.W.methodCall_KW (pl := pl) (thn (ho.run pins s σ H _ I w) ?_) ht
  rintro u s1 ⟨y, H1, I1, ry, a, dx, fs, rfl, ea, hl, q⟩
  cases (show u = Value.ref a from ry)
  refine getmeth_ok I1 ea cl hm hl (PySem.W.callWith_K0 (first := [.ref a]) I1.kIn hm.kp (run_fnSD (us := [.ref a]) (vs := [.ref a]) (E := E0) (dvs := []) F hr hb .nil (hx σ) I1 (.cons rfl .nil) ?_))
  exact q
/-- C(..) -/
def tMakeAt (C : Addr) (sp : Sp) (E0 : L2.St → XK) (t : TA) : TE := fun σ H Q => t σ H fun vs H1 => ∀ x dx, H1 x = none → H1 dx = none → dx ≠ x →
  sp (.ref x :: vs) (upd (upd H1 dx (.own x)) x (.ins C dx [])) (fun v H2 => v = .non ∧ Q (.ref x) H2) (E0 σ)
theorem run_makeAt {pins : List (Addr × Obj)} {σ : L2.St} {H : Hp} {s : Shared} {Q : VK} {us : List Value} {vs : List V} (M : Mk X.K C f) (F : FnOk X.prog X.w X.K X.mg X.base (L2.CX X.prog X.w) k f fd ps sp) (hr : Room (k + 1) X.A) (hb : Binds X.K fd ps [])
    (hx : PassesAt (L2.CX X.prog X.w) X σ (E0 σ)) (I : Inv X pins σ H s) (r : Vals vs us)
    (w : ∀ x dx, H x = none → H dx = none → dx ≠ x → sp (.ref x :: vs) (upd (upd H dx (.own x)) x (.ins C dx [])) (fun v H2 => v = .non ∧ Q (.ref x) H2) (E0 σ)) :
    wpAny (model X.prog X.w) X.A (call (.ref C) us) (EP X pins σ Q) X.xe s := by
  let z := s.heap.objs.size
  have w1 := w (z + 1) z (I.hok.fresh (Nat.le_succ _)) (I.hok.fresh (Nat.le_refl _)) (Nat.ne_of_lt (Nat.lt_succ_self z))
  have J := I.made (C := C)
  have rv : Vals (V.ref (z + 1) :: vs) (Value.ref (z + 1) :: us) := .cons rfl r
  have len : (Value.ref (z + 1) :: us).length = ps.length := by rw [← rv.length]; exact F.len _ _ _ _ w1
  have bd := hb _ (Value.ref (z + 1) :: us) J.kIn (by rw [List.append_nil]; exact len)
  rw [List.append_nil] at bd
  refine wpAny_call (make_map (f := f) I.kIn M.makes M.init (beq_iff_eq.mp M.fn) (codeAny_mono (F.run _ X.stack _ _ ⟨Value.ref (z + 1) :: us, []⟩ (Value.ref (z + 1) :: us) _ _ (E0 σ) (hr.make C us []) (J.env0.make C us []) bd rv w1) ?_))
  intro res s' hq
  match res, hq with
  | .error e, hq => exact hx pins _ _ e s' J hq
  | .ok (.ret u), hq =>
    obtain ⟨v, H', I3, r3, e3, q3⟩ := J.after hq
    subst e3
    exact ⟨r3, V.ref (z + 1), H', I3, rfl, q3⟩
  | .ok .next, hq => exact hq.elim
  | .ok .brk, hq => exact hq.elim
  | .ok .cont, hq => exact hq.elim
theorem pe_makeAt (M : Mk X.K C f) (F : FnOk X.prog X.w X.K X.mg X.base (L2.CX X.prog X.w) k f fd ps sp) (hr : Room (k + 1) X.A) (hm : X.mg x = some (.ref C)) (hb : Binds X.K fd ps []) (hx : ∀ σ, PassesAt (L2.CX X.prog X.w) X σ (E0 σ))
    (ha : PA X (e :: es) t) (hg : Gl X x) (hdb : (x == ("__debug__" : Str)) = false) (he : starEach (e :: es) X.env = (false, eval e X.env) :: starEach es X.env) (hpl : (backTo pos (starEach es X.env)).any (·.1) = false) : PE X (.Call (.Name x p) (e :: es) [] pos) (tMakeAt C sp E0 t) := by
  constructor
  intro pins s σ H Q I w
  refine wpAny_Call_Name_kw (ld_glob I hg hm (PySem.W.callWith_K (h₀ := X.base) I.ok.mod.kin M.kp (thn (ha.run pos pins s σ H _ I w) ?_) he hpl) hdb)
  rintro us s1 ⟨vs, H1, I1, r, q⟩
  exact ⟨I1.kIn, run_makeAt M F hr hb (hx σ) I1 r q⟩
theorem pe_makeAt0 (M : Mk X.K C f) (F : FnOk X.prog X.w X.K X.mg X.base (L2.CX X.prog X.w) k f fd ps sp) (hr : Room (k + 1) X.A) (hm : X.mg x = some (.ref C)) (hb : Binds X.K fd ps []) (hx : ∀ σ, PassesAt (L2.CX X.prog X.w) X σ (E0 σ)) (hg : Gl X x) (hdb : (x == ("__debug__" : Str)) = false) :
    PE X (.Call (.Name x p) [] [] pos) (tMakeAt C sp E0 tNil) := by
  constructor
  intro pins s σ H Q I w
  exact wpAny_Call_Name_kw (ld_glob I hg hm (PySem.W.callWith_K0 I.kIn M.kp (run_makeAt (us := []) M F hr hb (hx σ) I .nil w)) hdb)
end

section
variable {X : Cx} {E : WX} {pos apos p : Pos} {e o : Expr} {es : List Expr} {fe : En → Oc D} {fs : En → Oc (List D)}
theorem meth_in {C : Addr} {c m : Str} {ns : List Str} {n : Nat} {mir : List D → Oc D} {σ : L2.St} {H : Hp} {Q : VK} (hm : X.mg c = some (.ref C)) (hno : ns.contains m = false) (w : tD X.K X.mg E (eMeth c ns n mir fe fs) σ H Q) :
    tMethAt C m (spD X.K X.mg n mir) (WE E) (tD X.K X.mg E fe) (tDL X.K X.mg E fs) σ H Q := by
  obtain ⟨Hf, env, s, r, af⟩ := w
  show tD X.K X.mg E fe σ H _
  refine tD_bind s r af fun d v Hf1 H1 e1 f1 r1 a1 => ?_
  cases d with
  | obj c' ns' vs =>
    by_cases hc : c' = c ∧ ns' = ns
    · obtain ⟨rfl, rfl⟩ := hc
      have a1 : Af X.K X.mg E Hf1 H1 σ Q ((fs env).bind fun ds => if ds.length + 1 = n then mir (.obj c' ns' vs :: ds) else .un) := by simpa using a1
      have r1' := r1
      unfold Rep at r1'
      obtain ⟨a, C', dx, xs, rfl, hm', ha, hl, rs⟩ := r1'
      rw [hm] at hm'
      cases hm'
      refine ⟨a, dx, _, rfl, f1.fh _ _ ha, ?_, ?_⟩
      · rw [zip_lookup m _ _ (by rw [hl, rs.len])]
        have hnm : m ∉ ns' := by simpa using hno
        rw [List.idxOf_eq_length hnm, List.getElem?_eq_none (by rw [hl, rs.len]; exact Nat.le_refl _)]
      · refine tDL_bind f1.fh (r.mono f1.ff) a1 fun ds ws Hf2 H2 e2 f2 r2 a2 => ?_
        by_cases hd : ds.length + 1 = n
        · rw [if_pos hd] at a2
          refine ⟨Hf2, .obj c' ns' vs :: ds, hd, f2.fh, Reps.cons (Rep.mono f2.ff _ _ r1) r2, ?_⟩
          cases q : mir (.obj c' ns' vs :: ds) with
          | un => rw [q] at a2; exact a2
          | er x => rw [q] at a2; exact a2
          | ok z => rw [q] at a2; exact a2
        · rw [if_neg hd] at a2; exact a2.elim
    · simp [hc] at a1
      exact a1.elim
  | _ => exact a1.elim
theorem q_meth {k n : Nat} {c m : Str} {mir : List D → Oc D} {pl : Sem Bool} (ns : List Str) (G : MtI X.prog X.w X.K X.mg X.base k c m n mir) (hr : Room k X.A) (tk : Takes X E) (ho : PEd X E o fe) (ha : PAd X E (e :: es) fs) (hno : ns.contains m = false := by decide +kernel)
    (hst : starEach (e :: es) X.env = (false, eval e X.env) :: starEach es X.env := by rfl) (hpl : (backTo pos (starEach es X.env)).any (·.1) = false := by rfl)
    (ht : eval (.Call (.Attribute o m apos) (e :: es) [] pos) X.env = (do
      let self ← eval o X.env
      standAt apos.atName
      let (g, fst) ← holding [self] (getMethod self m pl)
      callWith pos g fst (backTo pos (starEach (e :: es) X.env)) (backToKw pos (keywordEach [] X.env))) := by rfl) : PEd X E (.Call (.Attribute o m apos) (e :: es) [] pos) (eMeth c ns n mir fe fs) := by
  obtain ⟨C, f, fd, ps, h1, h2, h3, h4, F⟩ := G.ex
  exact pe_imp (pe_methAt (E0 := WE E) ho h2 h3 F hr h4 (fun σ => passAt tk σ) ha hst hpl ht) fun σ H Q w => meth_in h1 hno w
theorem tD_mono {K : PySem.W.Frag} {mg : Str → Option Value} {f : En → Oc D} {σ : L2.St} {H : Hp} {Q R : VK} (w : tD K mg E f σ H Q) (h : ∀ x H, Q x H → R x H) : tD K mg E f σ H R := by
  obtain ⟨Hf, env, s, r, af⟩ := w
  refine ⟨Hf, env, s, r, ?_⟩
  cases q : f env with
  | un => rw [q] at af; exact af
  | er x => rw [q] at af; exact af
  | ok d => rw [q] at af; exact fun v Hf' H' f' r' => h _ _ (af v Hf' H' f' r')
theorem q_meth0 {k n : Nat} {c m : Str} {mir : List D → Oc D} {pl : Sem Bool} (ns : List Str) (G : MtI X.prog X.w X.K X.mg X.base k c m n mir) (hr : Room k X.A) (tk : Takes X E) (ho : PEd X E o fe) (hno : ns.contains m = false := by decide +kernel)
    (ht : eval (.Call (.Attribute o m apos) [] [] pos) X.env = (do
      let self ← eval o X.env
      standAt apos.atName
      let (g, fst) ← holding [self] (getMethod self m pl)
      callWith pos g fst (backTo pos (starEach [] X.env)) (backToKw pos (keywordEach [] X.env))) := by rfl) : PEd X E (.Call (.Attribute o m apos) [] [] pos) (eMeth c ns n mir fe aNil) := by
  obtain ⟨C, f, fd, ps, h1, h2, h3, h4, F⟩ := G.ex
  refine pe_imp (pe_methAt0 (E0 := WE E) ho h2 h3 F hr h4 (fun σ => passAt tk σ) ht) fun σ H Q w => ?_
  exact tD_mono (meth_in (fs := aNil) h1 hno w) fun x H1 ⟨a, dx, fs, ex, ea, l, Hf, env, s, r, af⟩ => ⟨a, dx, fs, ex, ea, l, af [] Hf H1 (Fr.refl s) Reps.nil⟩
/-! ### an instance is made -/
/-- behind __init__ -/
def AfM (K : PySem.W.Frag) (mg : Str → Option Value) (C : Addr) (ns : List Str) (p : Addr) (Hf H0 : Hp) (Q : VK) (E : XK) : Oc (List D) → Prop
  | .ok vals => ∀ Hf' H' dx xs, Fr Hf H0 Hf' H' → Hf' p = none → H' p = some (.ins C dx (ns.zip xs)) → ns.length = vals.length → Reps K mg Hf' vals xs → Q .non H'
  | .er x => ∀ cls dd Hf' H', Fr Hf H0 Hf' H' → RepX K mg Hf' x cls dd → E cls dd H'
  | .un => False
/-- THE PROMISE of an __init__ -/
def spI (K : PySem.W.Frag) (mg : Str → Option Value) (c : Str) (ns : List Str) (n : Nat) (mi : List D → Oc (List D)) : Sp := fun vs H Q E => ∃ p C dx H0 Hf ds ws, vs = .ref p :: ws ∧ mg c = some (.ref C) ∧ H p = some (.ins C dx []) ∧ H0 p = none ∧ Same H0 H ∧ Same Hf H0 ∧ ds.length = n ∧ Reps K mg Hf ds ws ∧ AfM K mg C ns p Hf H0 Q E (mi ds)
structure MkI (P : Program) (w : World) (K : PySem.W.Frag) (mg : Str → Option Value) (base : Heap) (k : Nat) (c : Str) (ns : List Str) (n : Nat) (mi : List D → Oc (List D)) : Prop where
  ex : ∃ C f fd ps, mg c = some (.ref C) ∧ Mk K C f ∧ Binds K fd ps [] ∧ FnOk P w K mg base (L2.CX P w) k f fd ps (spI K mg c ns n mi)
def eMake (c : Str) (ns : List Str) (n : Nat) (mi : List D → Oc (List D)) (fs : En → Oc (List D)) : En → Oc D := fun env => (fs env).bind fun ds => if ds.length = n then (mi ds).bind fun vals => .ok (.obj c ns vals) else .un
@[simp] theorem eMake_ap (c : Str) (ns : List Str) (n : Nat) (mi : List D → Oc (List D)) (fs : En → Oc (List D)) (env : En) : eMake c ns n mi fs env = (fs env).bind fun ds => if ds.length = n then (mi ds).bind fun vals => .ok (.obj c ns vals) else .un := (rfl)
theorem make_in {C : Addr} {c : Str} {ns : List Str} {n : Nat} {mi : List D → Oc (List D)} {σ : L2.St} {H : Hp} {Q : VK} (hm : X.mg c = some (.ref C)) (w : tD X.K X.mg E (eMake c ns n mi fs) σ H Q) :
    tMakeAt C (spI X.K X.mg c ns n mi) (WE E) (tDL X.K X.mg E fs) σ H Q := by
  obtain ⟨Hf, env, s, r, af⟩ := w
  show tDL X.K X.mg E fs σ H _
  refine tDL_bind s r af fun ds ws Hf1 H1 e1 f1 r1 a1 => fun x dx n1 n2 ne => ?_
  by_cases hd : ds.length = n
  · rw [if_pos hd] at a1
    refine ⟨x, C, dx, upd H1 dx (.own x), Hf1, ds, ws, rfl, hm, upd_same, by rw [upd_ne ne.symm]; exact n1, upd_mono (by rw [upd_ne ne.symm]; exact n1), f1.fh.trans (upd_mono n2), hd, r1, ?_⟩
    cases q : mi ds with
    | un => rw [q] at a1; exact a1
    | er z => rw [q] at a1; exact fun cls dd Hf' H' f' rx => a1 cls dd Hf' H' ⟨f'.ff, (upd_mono n2).trans f'.hh, f'.fh, fun b h1 h2 => (upd_mono n2).free (f'.nw b h1 h2)⟩ rx
    | ok vals =>
      rw [q] at a1
      intro Hf' H' dy xs f' n3 hx hl rs
      refine ⟨rfl, a1 (.ref x) (upd Hf' x (.ins C dy (ns.zip xs))) H' ⟨f'.ff.trans (upd_mono n3), (upd_mono n2).trans f'.hh, fun b o e => ?_, fun b h1 h2 => ?_⟩ ?_⟩
      · by_cases e2 : b = x
        · rw [e2, upd_same] at e; rw [e2, hx]; exact e
        · rw [upd_ne e2] at e; exact f'.fh _ _ e
      · by_cases e2 : b = x
        · rw [e2]; exact n1
        · rw [upd_ne e2] at h2; exact (upd_mono n2).free (f'.nw b h1 h2)
      · unfold Rep
        exact ⟨x, C, dy, xs, rfl, hm, upd_same, hl, Reps.mono (upd_mono n3) _ _ rs⟩
  · rw [if_neg hd] at a1; exact a1.elim
theorem q_make {k n : Nat} {c : Str} {ns : List Str} {mi : List D → Oc (List D)} (G : MkI X.prog X.w X.K X.mg X.base k c ns n mi) (hr : Room (k + 1) X.A) (tk : Takes X E) (ha : PAd X E (e :: es) fs) (hg : Gl X c := by rfl) (hdb : (c == ("__debug__" : Str)) = false := by decide)
    (he : starEach (e :: es) X.env = (false, eval e X.env) :: starEach es X.env := by rfl) (hpl : (backTo pos (starEach es X.env)).any (·.1) = false := by rfl) : PEd X E (.Call (.Name c p) (e :: es) [] pos) (eMake c ns n mi fs) := by
  obtain ⟨C, f, fd, ps, h1, h2, h4, F⟩ := G.ex
  exact pe_imp (pe_makeAt (E0 := WE E) h2 F hr h1 h4 (fun σ => passAt tk σ) ha hg hdb he hpl) fun σ H Q w => make_in h1 w
theorem q_make0 {k n : Nat} {c : Str} {ns : List Str} {mi : List D → Oc (List D)} (G : MkI X.prog X.w X.K X.mg X.base k c ns n mi) (hr : Room (k + 1) X.A) (tk : Takes X E) (hg : Gl X c := by rfl) (hdb : (c == ("__debug__" : Str)) = false := by decide) : PEd X E (.Call (.Name c p) [] [] pos) (eMake c ns n mi aNil) := by
  obtain ⟨C, f, fd, ps, h1, h2, h4, F⟩ := G.ex
  refine pe_imp (pe_makeAt0 (E0 := WE E) h2 F hr h1 h4 (fun σ => passAt tk σ) hg hdb) fun σ H Q w => ?_
  obtain ⟨Hf, env, s, r, af⟩ := make_in (fs := aNil) h1 w
  exact af [] Hf H (Fr.refl s) Reps.nil
end
/-- the fields that __init__ leaves -/
def outI (c : Str) (ns : List Str) : Out → Oc (List D)
  | .nx (.ow (.ob c' ns' vs') :: _) => if c' = c ∧ ns' = ns then .ok vs' else .un
  | .rs x _ => .er x
  | _ => .un
@[simp] theorem outI_nx (c c' : Str) (ns ns' : List Str) (vs' : List D) (r : List Sl) : outI c ns (.nx (.ob c' ns' vs' :: r)) = if c' = c ∧ ns' = ns then .ok vs' else .un := (rfl)
@[simp] theorem outI_rs (c : Str) (ns : List Str) (x : D) (e : List Sl) : outI c ns (.rs x e) = .er x := (rfl)
def runI (c : Str) (ns : List Str) (N : Nat) (g : List Sl → Out) (ds : List D) : Oc (List D) := outI c ns (g (.ob c [] [] :: sl0 N ds))
@[simp] theorem runI_eq (c : Str) (ns : List Str) (N : Nat) (g : List Sl → Out) (ds : List D) : runI c ns N g ds = outI c ns (g (.ob c [] [] :: sl0 N ds)) := (rfl)
section
variable {P : Program} {w : World} {K : PySem.W.Frag} {mg : Str → Option Value} {base : Heap}
theorem start_cons (x : Str) (N : List Str) (v : V) (ws : List V) : L2.start (x :: N) (v :: ws) = some v :: L2.start N ws := by
  unfold L2.start
  simp
theorem init_start {x : Str} {N : List Str} {H0 H Hf : Hp} {p C dx : Addr} {c : Str} {ds : List D} {ws : List V} (hm : mg c = some (.ref C)) (hp : H p = some (.ins C dx [])) (n0 : H0 p = none) (s0 : Same H0 H) (s : Same Hf H0) (r : Reps K mg Hf ds ws) (hn : ds.length ≤ N.length) :
    SlOk K mg ⟨H0, p⟩ Hf Hf H (.ob c [] [] :: sl0 N.length ds) (L2.start (x :: N) (.ref p :: ws)) := by
  have S := sl_start (K := K) (mg := mg) (N := N) s r hn
  rw [start_cons]
  have no : ∀ (i : Nat) (o : Ow), (sl0 N.length ds)[i]? ≠ some (.ow o) := fun i o e => by
    obtain ⟨q, h, _, _, g1, g2, _⟩ := S.ow i o e
    rw [show H0 q = none from g1] at g2
    cases g2
  refine ⟨by rw [List.length_cons, List.length_cons, S.len], Fr.le s s0, fun i d e => ?_, fun i o e => ?_, fun i j o m q hij e1 e2 => ?_, fun c' ns vs e => rfl⟩
  · cases i with
    | zero => cases e
    | succ i => exact S.sh i d e
  · cases i with
    | zero =>
      cases e
      exact ⟨p, _, rfl, s.free n0, n0, hp, C, dx, [], rfl, hm, rfl, Reps.nil⟩
    | succ i => exact absurd e (no i o)
  · cases i with
    | succ i => exact absurd e1 (no i o)
    | zero =>
      cases j with
      | zero => exact absurd rfl hij
      | succ j => exact absurd e2 (no j m)
theorem init_sem {x qual c y : Str} {ns : List Str} {st : Stmt} {f : Addr} {fd : FuncData} {N ps : List Str} {k : Nat} {g : List Sl → Out} (F : Fun K x qual st f fd) (S : FnScope (y :: N) (y :: ps) (defScope st)) (hN : ps.length ≤ N.length)
    (hbody : ∀ (cdv : Value) (A : Around) (outer : List Env) (s : Shared) (H : Hp) (E : XK), Room k (A.deeper (PyProof.Rows.envOfC qual (defScope st) s.heap.objs.size f cdv)) →
      PSsd (cxOf (L2.CX P w) P w K mg base (y :: N) qual (defScope st) f cdv A outer s H E) (fun cls d _ H => E cls d H) (defBody st) g) : FnOk P w K mg base (L2.CX P w) (k + 1) f fd (y :: ps) (spI K mg c ns ps.length (runI c ns N.length g)) := by
  refine F.okX S (fun vs H Q E h => ?_) (fun cdv A outer s H vs Q E hr h => ⟨_, hbody cdv A outer s H E hr, ?_⟩)
  · obtain ⟨p, C, dx, H0, Hf, ds, ws, rfl, _, _, _, _, _, l, r, _⟩ := h
    rw [List.length_cons, List.length_cons, r.len, l]
  · obtain ⟨p, C, dx, H0, Hf, ds, ws, rfl, hm, hp, n0, s0, sm, l, r, a⟩ := h
    refine ⟨⟨H0, p⟩, Hf, Hf, _, init_start (x := y) (N := N) hm hp n0 s0 sm r (by rw [l]; exact hN), ?_⟩
    unfold runI at a
    revert a
    cases g (.ob c [] [] :: sl0 N.length ds) with
    | rt d => exact fun a => a.elim
    | rs x e => exact fun a cls dd σ' Hf' H' S' r' => a cls dd Hf' H' S'.fr r'
    | bk e => exact fun a => a.elim
    | ct e => exact fun a => a.elim
    | un => exact fun a => a.elim
    | nx e =>
      intro a σ' Hf' H' S'
      match e, a, S' with
      | [], a, _ => exact a.elim
      | .no :: _, a, _ => exact a.elim
      | .sh _ :: _, a, _ => exact a.elim
      | .ow (.lst _) :: _, a, _ => exact a.elim
      | .ow (.ob c' ns' vs') :: rest, a, S' =>
        have b2 : AfM K mg C ns p Hf H0 Q E (if c' = c ∧ ns' = ns then .ok vs' else .un) := a
        by_cases hc : c' = c ∧ ns' = ns
        · rw [if_pos hc] at b2
          obtain ⟨rfl, rfl⟩ := hc
          have z := S'.sf c' ns' vs' rfl
          obtain ⟨q, h, g1, g2, g3, g4, C', dy, xs, rfl, g6, g7, g8⟩ := S'.ow 0 _ rfl
          rw [z] at g1
          cases g1
          have g6 : mg c' = some (.ref C') := g6
          rw [hm] at g6
          cases g6
          exact b2 Hf' H' dy xs S'.fr g2 g4 g7 g8
        · rw [if_neg hc] at b2; exact b2.elim
end
/-! ### self.f = e -/
theorem putF_zip (f : Str) (y : V) : ∀ (ns : List Str) (xs : List V), ns.length = xs.length → putF f y (ns.zip xs) = if f ∈ ns then ns.zip (xs.set (ns.idxOf f) y) else (ns ++ [f]).zip (xs ++ [y])
  | [], [], _ => rfl
  | n :: ns, x :: xs, h => by
    have ih := putF_zip f y ns xs (Nat.succ.inj h)
    rw [List.zip_cons_cons]
    unfold putF
    by_cases e : n = f
    · subst e
      simp [List.idxOf_cons]
    · rw [if_neg e, ih]
      by_cases hf : f ∈ ns
      · rw [if_pos hf, if_pos (List.mem_cons_of_mem _ hf), List.idxOf_cons]
        have h2 : (n == f) = false := by simpa using e
        rw [h2]
        rfl
      · rw [if_neg hf, if_neg (by simp [hf]; exact fun z => e z.symm)]
        rfl
def putNs (f : Str) (ns : List Str) : List Str := if f ∈ ns then ns else ns ++ [f]
def putVs (f : Str) (ns : List Str) (d : D) (vs : List D) : List D := if f ∈ ns then vs.set (ns.idxOf f) d else vs ++ [d]
theorem putNs_new {f : Str} {ns : List Str} (h : f ∉ ns) : putNs f ns = ns ++ [f] := if_neg h
theorem putVs_new {f : Str} {ns : List Str} {d : D} {vs : List D} (h : f ∉ ns) : putVs f ns d vs = vs ++ [d] := if_neg h
def sSto (i : Nat) (c f : Str) (p : Nat → Bool) (g : En → Oc D) (env : List Sl) : Out := match env[i]? with
  | some (.ow (.ob c' ns vs)) => if c' = c ∧ ns.length < 500 then exO (frz p 0 env) (g (view p env)) fun d => if lf d = true ∨ p i = false then .nx ((if lf d = true then env else frz p 0 env).set i (.ob c' (putNs f ns) (putVs f ns d vs))) else .un else .un
  | _ => .un
theorem sSto_ob {i : Nat} {c f : Str} {p : Nat → Bool} {g : En → Oc D} {env : List Sl} {ns : List Str} {vs : List D} (h : env[i]? = some (.ob c ns vs)) : sSto i c f p g env = if ns.length < 500 then exO (frz p 0 env) (g (view p env)) fun d => if lf d = true ∨ p i = false then .nx ((if lf d = true then env else frz p 0 env).set i (.ob c (putNs f ns) (putVs f ns d vs))) else .un else .un := by
  unfold sSto
  rw [h]
  simp
section
variable {X : Cx} {E : WX} {pos pos' px : Pos} {e : Expr} {g : En → Oc D}
theorem OwR.put {K : PySem.W.Frag} {mg : Str → Option Value} {Hf : Hp} {C dx : Addr} {c f : Str} {ns : List Str} {vs : List D} {xs : List V} {d : D} {v : V} (hm : mg c = some (.ref C)) (hl : ns.length = vs.length) (r : Reps K mg Hf vs xs) (rd : Rep K mg Hf d v) :
    OwR K mg Hf (.ob c (putNs f ns) (putVs f ns d vs)) (.ins C dx (putF f v (ns.zip xs))) := by
  rw [putF_zip f v ns xs (by rw [hl, r.len])]
  unfold putNs putVs
  by_cases h : f ∈ ns
  · rw [if_pos h, if_pos h, if_pos h]
    exact ⟨C, dx, _, rfl, hm, by rw [List.length_set]; exact hl, r.set _ rd⟩
  · rw [if_neg h, if_neg h, if_neg h]
    exact ⟨C, dx, _, rfl, hm, by rw [List.length_append, List.length_append, hl]; rfl, r.append (Reps.one rd)⟩
theorem s_sto (p : Nat → Bool) {i : Nat} {x f c : Str} {as : List Str} (T : ClI X.K X.mg c as) (he : PEd X E e g) (hi : X.N[i]? = some x := by rfl) (hv : Vis X.env.scope x := by first | exact Or.inl rfl | exact Or.inr (Or.inl rfl) | exact Or.inr (Or.inr rfl))
    (hf : f ∈ as := by decide +kernel) (hd : (x == ("__debug__" : Str)) = false := by decide) (hcd : (x == ("__classdict__" : Str)) = false := by decide)
    (hs : swapsWith e (some (.Attribute (.Name x px) f pos')) pos.line X.env = pure false := by rfl) : PSd X E (.Assign [.Attribute (.Name x px) f pos'] e pos) (sSto i c f p g) := by
  refine ps_imp (ps_fld (pe_var (i := i) hi hv hd hcd) he hs) fun D' σ H ⟨H0, Hf0, Hf, env, S, af⟩ => ?_
  unfold sSto at af
  split at af
  · rename_i c' ns vs hown
    by_cases hc : c' = c ∧ ns.length < 500
    · rw [if_pos hc] at af
      obtain ⟨rfl, hlen⟩ := hc
      show tD X.K X.mg E g σ H fun y H1 => _
      refine ev_use S af fun d v Hf' H' q fr r af' => ?_
      by_cases hg : lf d = true ∨ p i = false
      · rw [if_pos hg] at af'
        obtain ⟨C', hm', cl, na⟩ := T.ex
        obtain ⟨a, _, g1, g2, g3, g4, C, dx, xs, rfl, g6, g7, g8⟩ := S.ow i _ hown
        have g6' := g6
        rw [hm'] at g6'
        cases g6'
        refine ⟨.ref a, g1, a, _, dx, _, rfl, fr.hh _ _ g4, cl, na f hf, ?_, ?_⟩
        · rw [List.length_zip]; omega
        by_cases hlf : lf d = true
        · rw [if_pos hlf] at af'
          obtain ⟨S', dr, le⟩ := S.back fr
          obtain ⟨b, _, k1, k2, k3, k4, C2, dx2, xs2, rfl, k6, k7, k8⟩ := S'.ow i _ hown
          rw [g1] at k1
          cases k1
          have e2 := fr.hh _ _ g4
          rw [k4] at e2
          injection e2 with e2
          injection e2 with e3 e4 e5
          subst e3 e4
          rw [← e5]
          exact af' _ _ _ (S'.writeO hown g1 (OwR.put k6 k7 k8 (Rep.drop dr d v hlf r)) fun _ _ _ _ => ⟨_, _, _, rfl⟩)
        · rw [if_neg hlf] at af'
          have S' := (S.frozen p).go fr
          have hown' := frz_own hown (hg.resolve_left hlf)
          obtain ⟨b, _, k1, k2, k3, k4, C2, dx2, xs2, rfl, k6, k7, k8⟩ := S'.ow i _ hown'
          rw [g1] at k1
          cases k1
          have e2 := fr.hh _ _ g4
          rw [k4] at e2
          injection e2 with e2
          injection e2 with e3 e4 e5
          subst e3 e4
          rw [← e5]
          exact af' _ _ _ (S'.writeO hown' g1 (OwR.put k6 k7 k8 r) fun _ _ _ _ => ⟨_, _, _, rfl⟩)
      · rw [if_neg hg] at af'; exact af'.elim
    · rw [if_neg hc] at af; exact af.elim
  · exact af.elim
end
section
variable {P : Program} {w : World} {K : PySem.W.Frag} {mg : Str → Option Value} {base : Heap}
theorem mki {x qual c y : Str} {ns : List Str} {st : Stmt} {f C : Addr} {fd : FuncData} {N ps : List Str} {k : Nat} {g : List Sl → Out} (F : Fun K x qual st f fd) (hc : mg c = some (.ref C)) (M : Mk K C f) (hb : Binds K fd (y :: ps) []) (S : FnScope (y :: N) (y :: ps) (defScope st)) (hN : ps.length ≤ N.length)
    (hbody : ∀ (cdv : Value) (A : Around) (outer : List Env) (s : Shared) (H : Hp) (E : XK), Room k (A.deeper (PyProof.Rows.envOfC qual (defScope st) s.heap.objs.size f cdv)) →
      PSsd (cxOf (L2.CX P w) P w K mg base (y :: N) qual (defScope st) f cdv A outer s H E) (fun cls d _ H => E cls d H) (defBody st) g) : MkI P w K mg base (k + 1) c ns ps.length (runI c ns N.length g) :=
  ⟨C, f, fd, y :: ps, hc, M, hb, init_sem F S hN hbody⟩
theorem mti {x qual c m : Str} {st : Stmt} {f C : Addr} {fd : FuncData} {N ps : List Str} {k : Nat} {g : List Sl → Out} (F : Fun K x qual st f fd) (hc : mg c = some (.ref C)) (cl : Cls K C) (hm : Meth K C m f) (hb : Binds K fd ps []) (S : FnScope N ps (defScope st)) (hN : ps.length ≤ N.length)
    (hbody : ∀ (cdv : Value) (A : Around) (outer : List Env) (s : Shared) (H : Hp) (E : XK), Room k (A.deeper (PyProof.Rows.envOfC qual (defScope st) s.heap.objs.size f cdv)) →
      PSsd (cxOf (L2.CX P w) P w K mg base N qual (defScope st) f cdv A outer s H E) (fun cls d _ H => E cls d H) (defBody st) g) : MtI P w K mg base (k + 1) c m ps.length (runB N.length g) :=
  ⟨C, f, fd, ps, hc, cl, hm, hb, fn_sem F S hN (fun ds l _ => rfl) hbody⟩
end
end Sem

namespace Sem
open PySem PySem.Spec L2
/-! ### errors: own classes over ValueError without an __init__ of their own -/
def baseVE : List Value := [.type "ValueError", .type "Exception", .type "BaseException", .type "object"]
structure ErC (K : PySem.W.Frag) (mg : Str → Option Value) (c : Str) : Prop where
  ex : ∃ C, mg c = some (.ref C) ∧ PySem.W.excIn K C [.type "ValueError", .type "Exception", .type "BaseException", .type "object"] "ValueError.__new__" = true ∧ PySem.W.keepIn K (.ref C) = true ∧ PySem.W.subIn K (.ref C) (.type "BaseException") = some true ∧ PySem.W.typeIn K (.ref C) = some (.type "type")
section
variable {X : Cx} {E : WX} {pos pos' p : Pos}
theorem pmk_own0 {C : Addr} {x : Str} (q : PySem.W.excIn X.K C [.type "ValueError", .type "Exception", .type "BaseException", .type "object"] "ValueError.__new__" = true) (gC : X.mg x = some (.ref C)) (kC : PySem.W.keepIn X.K (.ref C) = true) (r : Raises X (.ref C)) (hg : Gl X x) (hdb : (x == ("__debug__" : Str)) = false) :
    PMk X (.Call (.Name x p) [] [] pos) (fun _ H Q => Q (.ref C) none H) := by
  intro pins s σ H Q I w
  refine wpAny_Call_Name_kw (ld_glob I hg gC (PySem.W.callWith_K0 I.kIn kC ?_) hdb)
  obtain ⟨bm, N, nm, qn, bs, hdct, sn, sub, ab, col, dd, k0, k1, k2, k3, k5, mN, hC, hN, hni, T⟩ := exc_obj I.kIn q
  exact wpAny_call_exc_subT PySem.F.excBase_ValueError T hC hN hni (fun h' e hm => mk_of I hm r w (I.hok.gone hm.new)) (Nat.zero_le _)
def sRaise (c : Str) : List Sl → Out := fun env => .rs (.obj c [] []) env
@[simp] theorem sRaise_ap (c : Str) (env : List Sl) : sRaise c env = .rs (.obj c [] []) env := (rfl)
theorem s_raise {c : Str} (T : ErC X.K X.mg c) (tk : Takes X E) (hc : X.calm = true := by rfl) (hg : Gl X c := by rfl) (hdb : (c == ("__debug__" : Str)) = false := by decide) : PSd X E (.Raise (some (.Call (.Name c p) [] [] pos)) none pos') (sRaise c) := by
  obtain ⟨C, h1, h2, h3, h4, h5⟩ := T.ex
  exact ps_imp (ps_raise hc tk (pmk_own0 h2 h1 h3 (raises_own h4 h5) hg hdb)) fun D' σ H ⟨H0, Hf0, Hf, env, S, af⟩ => af (.ref C) none σ Hf H S ⟨C, h1, rfl, .inl ⟨rfl, rfl, rfl⟩⟩
/-! ### try .. except X as e -/
section
variable {K : PySem.W.Frag} {mg : Str → Option Value} {H0 : Gh} {Hf0 Hf H : Hp} {env : List Sl} {σ : L2.St}
/-- a slot of which nothing is told -/
theorem SlOk.forget (S : SlOk K mg H0 Hf0 Hf H env σ) (i : Nat) (v : Option V) : SlOk K mg H0 Hf0 Hf H (env.set i .no) (σ.set i v) := by
  refine ⟨by rw [List.length_set, List.length_set]; exact S.len, S.fr, fun j e h => ?_, fun j l h => ?_, fun j k l m q hjk h1 h2 h3 h4 => ?_, fun c ns vs e => ?_⟩
  · rcases set_at h with ⟨_, _, e2⟩ | ⟨hj, h'⟩
    · cases e2
    · obtain ⟨w, g1, g2⟩ := S.sh j e h'
      exact ⟨w, by rw [List.getElem?_set_ne (Ne.symm hj)]; exact g1, g2⟩
  · rcases set_at h with ⟨_, _, e2⟩ | ⟨hj, h'⟩
    · cases e2
    · obtain ⟨q, xs, g1, g⟩ := S.ow j l h'
      exact ⟨q, xs, by rw [List.getElem?_set_ne (Ne.symm hj)]; exact g1, g⟩
  · rcases set_at h1 with ⟨_, _, e2⟩ | ⟨hj, h1'⟩
    · cases e2
    rcases set_at h2 with ⟨_, _, e2⟩ | ⟨hk, h2'⟩
    · cases e2
    rw [List.getElem?_set_ne (Ne.symm hj)] at h3
    rw [List.getElem?_set_ne (Ne.symm hk)] at h4
    exact S.ne j k l m q hjk h1' h2' h3 h4
  · rcases set_at e with ⟨_, _, e2⟩ | ⟨hj, h'⟩
    · cases e2
    · rw [List.getElem?_set_ne (Ne.symm hj)]
      exact S.sf c ns vs h'
end
/-- the except clause 'except x': what it catches, what it lets go -/
structure TryC (K : PySem.W.Frag) (mg : Str → Option Value) (x : Str) (yes no : List Str) : Prop where
  ex : ∃ C, mg x = some (.ref C) ∧ (∀ c ∈ yes, ∀ D, mg c = some (.ref D) → PySem.W.exmOne K (.ref D) (.ref C) = some true) ∧ ∀ c ∈ no, ∀ D, mg c = some (.ref D) → PySem.W.exmOne K (.ref D) (.ref C) = some false
open Classical in
/-- what does not hang on where the error lies -/
noncomputable def anyA (f : Addr → Out) : Out := if h : ∃ o, ∀ a, f a = o then h.choose else .un
@[simp] theorem anyA_const (o : Out) : anyA (fun _ => o) = o := by
  unfold anyA
  have h : ∃ o', ∀ a : Addr, (fun _ : Addr => o) a = o' := ⟨o, fun _ => rfl⟩
  rw [dif_pos h]
  exact (h.choose_spec 0).symm
theorem anyA_of {f : Addr → Out} {o : Out} (h : ∀ a, f a = o) : anyA f = o := by rw [funext h]; exact anyA_const o
theorem anyA_use {f : Addr → Out} (h : anyA f ≠ .un) (a : Addr) : f a = anyA f := by
  unfold anyA at h ⊢
  by_cases z : ∃ o, ∀ a, f a = o
  · rw [dif_pos z]; exact z.choose_spec a
  · rw [dif_neg z] at h; exact absurd rfl h
/-- the name of the clause is gone behind it -/
def Out.less (i : Nat) : Out → Out
  | .nx e => .nx (e.set i .no)
  | .bk e => .bk (e.set i .no)
  | .ct e => .ct (e.set i .no)
  | .rt d => .rt d
  | _ => .un
@[simp] theorem less_nx (i : Nat) (e : List Sl) : Out.less i (.nx e) = .nx (e.set i .no) := (rfl)
@[simp] theorem less_bk (i : Nat) (e : List Sl) : Out.less i (.bk e) = .bk (e.set i .no) := (rfl)
@[simp] theorem less_ct (i : Nat) (e : List Sl) : Out.less i (.ct e) = .ct (e.set i .no) := (rfl)
@[simp] theorem less_rt (i : Nat) (d : D) : Out.less i (.rt d) = .rt d := (rfl)
@[simp] theorem less_un (i : Nat) : Out.less i .un = .un := (rfl)
noncomputable def tryO (i : Nat) (yes no : List Str) (gs : Addr → D → List Sl → Out) : Out → Out
  | .rs (.obj c ns vs) e => if c ∈ yes then anyA (fun a => (gs a (.obj c ns vs) (e.set i (.sh (.hnd a)))).less i) else if c ∈ no then .rs (.obj c ns vs) e else .un
  | .rs _ _ => .un
  | o => o
noncomputable def sTryA (i : Nat) (yes no : List Str) (gb : List Sl → Out) (gs : Addr → D → List Sl → Out) : List Sl → Out := fun env => tryO i yes no gs (gb env)
@[simp] theorem sTryA_ap (i : Nat) (yes no : List Str) (gb : List Sl → Out) (gs : Addr → D → List Sl → Out) (env : List Sl) : sTryA i yes no gb gs env = tryO i yes no gs (gb env) := (rfl)
@[simp] theorem tryO_nx (i : Nat) (yes no : List Str) (gs : Addr → D → List Sl → Out) (e : List Sl) : tryO i yes no gs (.nx e) = .nx e := (rfl)
@[simp] theorem tryO_bk (i : Nat) (yes no : List Str) (gs : Addr → D → List Sl → Out) (e : List Sl) : tryO i yes no gs (.bk e) = .bk e := (rfl)
@[simp] theorem tryO_ct (i : Nat) (yes no : List Str) (gs : Addr → D → List Sl → Out) (e : List Sl) : tryO i yes no gs (.ct e) = .ct e := (rfl)
@[simp] theorem tryO_rt (i : Nat) (yes no : List Str) (gs : Addr → D → List Sl → Out) (e : D) : tryO i yes no gs (.rt e) = .rt e := (rfl)
@[simp] theorem tryO_un (i : Nat) (yes no : List Str) (gs : Addr → D → List Sl → Out) : tryO i yes no gs .un = .un := (rfl)
@[simp] theorem tryO_rs (i : Nat) (yes no : List Str) (gs : Addr → D → List Sl → Out) (c : Str) (ns : List Str) (vs : List D) (e : List Sl) : tryO i yes no gs (.rs (.obj c ns vs) e) = if c ∈ yes then anyA (fun a => (gs a (.obj c ns vs) (e.set i (.sh (.hnd a)))).less i) else if c ∈ no then .rs (.obj c ns vs) e else .un := (rfl)
/-- the error that a suite holds -/
structure Held (K : PySem.W.Frag) (mg : Str → Option Value) (oe : Obj) (cls : Value) (d : Option Addr) (x : D) : Prop where
  hz : Zc cls d oe
  hf : ∃ vs, oe.data = .fields vs
  at_ : ∃ c ns vs, x = .obj c ns vs ∧ ∃ C, mg c = some (.ref C) ∧ cls = .ref C
  no_ : ∀ c, x = .obj c [] [] → d = none
theorem s_tryA (i : Nat) {x n : Str} {yes no : List Str} {body suite : List Stmt} {b₀ : Stmt} {np pos2 : Pos} {gb : List Sl → Out} {gs : Addr → D → List Sl → Out} (T : TryC X.K X.mg x yes no) (tk : Takes X E) (hs : X.stack = X.env :: X.outer) (hf : X.env.frame = some X.env.locals) (hN : X.N.Nodup)
    (hb : ∀ (W : WX) (pn : List (Addr × Obj)) (xe : Value → Shared → Prop), Takes (X.tr pn xe) W → PassesOwn (model X.prog X.w) X.A X.env xe → PSsd (X.tr pn xe) W body gb)
    (hsu : ∀ (a : Addr) (oe : Obj) (cls : Value) (d : Option Addr) (pn : List (Addr × Obj)) (x : D), Held X.K X.mg oe cls d x → PSsd (X.suite a ((a, oe) :: pn)) noE (b₀ :: suite) (gs a x))
    (hi : X.N[i]? = some n := by rfl) (hln : X.env.kindOf n = some .local := by rfl) (hg : Gl X x := by rfl) (hdb : (x == ("__debug__" : Str)) = false := by decide) :
    PSd X E (.Try body [.ExceptHandler (some (.Name x np)) (some n) (b₀ :: suite) pos2] [] [] pos) (sTryA i yes no gb gs) := by
  obtain ⟨C, hC, hy, hn⟩ := T.ex
  refine ps_imp (ps_try_as (i := i) (tb := fun W => tS X.K X.mg W gb) (ts := fun a cls d D σ H => ∃ x, (∀ oe, Zc cls d oe → (∃ vs, oe.data = .fields vs) → Held X.K X.mg oe cls d x) ∧ tS X.K X.mg noE (gs a x) D σ H) (Wout := E) hs hf hN hi hln ⟨hg, hdb, .inl hC⟩ tk (fun W pn xe t1 t2 => hb W pn xe t1 t2) (fun a oe cls d pn hz hf => ⟨fun pins s σ H D I ⟨x, hx, w⟩ => (hsu a oe cls d pn x (hx oe hz hf)).run pins s σ H D I w⟩)) ?_
  intro D' σ H ⟨H0, Hf0, Hf, env, S, af⟩
  refine ⟨H0, Hf0, Hf, env, S, ?_⟩
  unfold sTryA at af
  cases q : gb env with
  | nx e => rw [q] at af; exact af
  | bk e => rw [q] at af; exact af
  | ct e => rw [q] at af; exact af
  | rt d => rw [q] at af; exact af
  | un => rw [q] at af; exact af
  | rs x e =>
    rw [q] at af
    cases x with
    | obj c ns vs =>
      rw [tryO_rs] at af
      intro cls dd σ' Hf' H' S' rx
      have rx' := rx
      obtain ⟨D1, hm, rfl, hd⟩ := rx'
      by_cases h1 : c ∈ yes
      · rw [if_pos h1] at af
        refine ⟨true, hy c h1 D1 hm, fun _ a ha => ⟨.obj c ns vs, fun oe hz hf => ⟨hz, hf, ⟨c, ns, vs, rfl, D1, hm, rfl⟩, fun c' e' => ?_⟩, ?_⟩, (fun z => Bool.noConfusion z)⟩
        · cases e'
          rcases hd with ⟨_, _, rfl⟩ | ⟨b, xs, z0, _⟩
          · rfl
          · exact absurd rfl z0
        · have ne : anyA (fun a => (gs a (.obj c ns vs) (e.set i (.sh (.hnd a)))).less i) ≠ .un := fun z => by rw [z] at af; exact af
          have e1 := anyA_use ne a
          rw [← e1] at af
          refine ⟨H0, Hf0, Hf', e.set i (.sh (.hnd a)), S'.put (by unfold Rep; rfl) i, ?_⟩
          revert af
          show AfS X.K X.mg E H0 Hf0 D' ((gs a (.obj c ns vs) (e.set i (.sh (.hnd a)))).less i) → _
          cases gs a (.obj c ns vs) (e.set i (.sh (.hnd a))) with
          | nx e => exact fun af σ2 Hf2 H2 S2 => af _ _ _ (S2.forget i none)
          | bk e => exact fun af σ2 Hf2 H2 S2 => af _ _ _ (S2.forget i none)
          | ct e => exact fun af σ2 Hf2 H2 S2 => af _ _ _ (S2.forget i none)
          | rt d => exact fun af => af
          | rs x e => exact fun af => af.elim
          | un => exact fun af => af.elim
      · rw [if_neg h1] at af
        by_cases h2 : c ∈ no
        · rw [if_pos h2] at af
          exact ⟨false, hn c h2 D1 hm, (fun z => Bool.noConfusion z), fun _ => af _ dd σ' Hf' H' S' rx⟩
        · rw [if_neg h2] at af; exact af.elim
    | _ => exact af.elim
end

/-! ### isinstance of the error that a suite holds -/
structure ErI (K : PySem.W.Frag) (mg : Str → Option Value) (c : Str) : Prop where
  ex : ∃ C, mg c = some (.ref C) ∧ ExcC K C
/-- isinstance(error, cv) by the error's class -/
structure IsT (K : PySem.W.Frag) (mg : Str → Option Value) (cv : Value) (yes no : List Str) : Prop where
  y : ∀ c ∈ yes, ∀ D, mg c = some (.ref D) → PySem.W.kitOne K (.ref D) cv = some true
  n : ∀ c ∈ no, ∀ D, mg c = some (.ref D) → PySem.W.kitOne K (.ref D) cv = some false
def isX (yes no : List Str) (x : D) : Option Bool := match x with
  | .obj c [] [] => if c ∈ yes then some true else if c ∈ no then some false else none
  | _ => none
@[simp] theorem isX_ap (yes no : List Str) (c : Str) : isX yes no (.obj c [] []) = if c ∈ yes then some true else if c ∈ no then some false else none := (rfl)
def onHnd (a : Addr) (r : Oc D) : D → Oc D
  | .hnd a' => if a' = a then r else .un
  | _ => .un
@[simp] theorem onHnd_ap (a a' : Addr) (r : Oc D) : onHnd a r (.hnd a') = if a' = a then r else .un := (rfl)
def eIsX (i : Nat) (yes no : List Str) (a : Addr) (x : D) : En → Oc D := fun env => (env.at i).bind (onHnd a ((Oc.ofO (isX yes no x)).bind fun b => .ok (.bl b)))
@[simp] theorem eIsX_ap (i : Nat) (yes no : List Str) (a : Addr) (x : D) (env : En) : eIsX i yes no a x env = (env.at i).bind (onHnd a ((Oc.ofO (isX yes no x)).bind fun b => .ok (.bl b))) := (rfl)
section
variable {X : Cx} {E : WX} {pos p p1 p2 : Pos} {a : Addr} {oe : Obj} {cls : Value} {d : Option Addr} {x : D} {pn : List (Addr × Obj)}
/-- isinstance(e, C2); tc is how C2 is named -/
theorem q_isX (i : Nat) {y z : Str} {yes no : List Str} {cv : Value} {vc : V} (h : Held X.K X.mg oe cls d x) (hT : IsT X.K X.mg cv yes no) (hE : ∀ c, c ∈ yes ∨ c ∈ no → ErI X.K X.mg c)
    (hm : X.mg "isinstance" = none) (hz : PE (X.suite a ((a, oe) :: pn)) (.Name z p2) (tC vc)) (hcv : ∀ u, RelV vc u → u = cv)
    (hN : X.N[i]? = some y := by rfl) (hv : Vis (X.suite a ((a, oe) :: pn)).env.scope y := by first | exact Or.inl rfl | exact Or.inr (Or.inl rfl) | exact Or.inr (Or.inr rfl)) (hg : Gl (X.suite a ((a, oe) :: pn)) "isinstance" := by rfl)
    (hd : (y == ("__debug__" : Str)) = false := by decide) (hcd : (y == ("__classdict__" : Str)) = false := by decide)
    (he1 : starEach [.Name y p1, .Name z p2] (X.suite a ((a, oe) :: pn)).env = (false, eval (.Name y p1) (X.suite a ((a, oe) :: pn)).env) :: starEach [.Name z p2] (X.suite a ((a, oe) :: pn)).env := by rfl)
    (he2 : starEach [.Name z p2] (X.suite a ((a, oe) :: pn)).env = (false, eval (.Name z p2) (X.suite a ((a, oe) :: pn)).env) :: starEach [] (X.suite a ((a, oe) :: pn)).env := by rfl)
    (hpl : (backTo pos (starEach [.Name z p2] (X.suite a ((a, oe) :: pn)).env)).any (·.1) = false := by rfl) :
    PEd (X.suite a ((a, oe) :: pn)) E (.Call (.Name "isinstance" p) [.Name y p1, .Name z p2] [] pos) (eIsX i yes no a x) := by
  obtain ⟨c, ns, vs, rfl, C, hC, rfl⟩ := h.at_
  constructor
  intro pins s σ H Q I ⟨Hf, env, sm, r, af⟩
  unfold eIsX at af
  dsimp only [En.at] at af
  split at af
  · rename_i d0 hd0
    have af2 : Af X.K X.mg E Hf H σ Q (onHnd a ((Oc.ofO (isX yes no (.obj c ns vs))).bind fun b => .ok (.bl b)) d0) := af
    clear af
    cases d0 with
    | hnd a' =>
      rw [onHnd_ap] at af2
      by_cases ha : a' = a
      · rw [if_pos ha] at af2
        subst ha
        obtain ⟨v, g1, g2⟩ := r i _ hd0
        unfold Rep at g2
        subst g2
        have key : ∀ b, isX yes no (.obj c ns vs) = some b → Q (.bl b) H ∧ (c ∈ yes ∨ c ∈ no) ∧ d = none ∧ PySem.W.kitOne X.K (.ref C) cv = some b := fun b e => by
          rw [e] at af2
          have q := af2 (.bl b) Hf H (Fr.refl sm) (by unfold Rep; rfl)
          unfold isX at e
          split at e
          · rename_i c' heq
            cases heq
            by_cases h1 : c ∈ yes
            · rw [if_pos h1] at e
              cases e
              exact ⟨q, .inl h1, h.no_ c rfl, hT.y c h1 C hC⟩
            · rw [if_neg h1] at e
              by_cases h2 : c ∈ no
              · rw [if_pos h2] at e
                cases e
                exact ⟨q, .inr h2, h.no_ c rfl, hT.n c h2 C hC⟩
              · rw [if_neg h2] at e; cases e
          · cases e
        cases hb : isX yes no (.obj c ns vs) with
        | none => rw [hb] at af2; exact af2.elim
        | some b =>
          obtain ⟨k1, k2, k3, k4⟩ := key b hb
          subst k3
          obtain ⟨C', hC', ec⟩ := (hE c k2).ex
          rw [hC] at hC'
          cases hC'
          exact (pe_callB (call_isE ec h.hz h.hf) hg hm PyProof.Rows.boot_isinstance (pa_cons (pe_var (i := i) hN hv hd hcd) (pa_cons hz pa_nil he2) he1) (by decide) (by decide) he1 hpl).run pins s σ H Q I ⟨_, g1, ⟨vc, cv, b, rfl, hcv, k4, k1⟩⟩
      · rw [if_neg ha] at af2; exact af2.elim
    | _ => exact af2.elim
  · exact af.elim
end
end Sem

namespace Sem
open PySem PySem.Spec L2
section
variable {K : PySem.W.Frag} {mg : Str → Option Value} {E : WX} {Hf H : Hp} {σ : L2.St} {env : En}
/-- one expression on the way to a new list -/
theorem tD_bindN {f : En → Oc D} {u : D → Oc (List D)} {Q R : VK} (s : Same Hf H) (r : EnR K mg Hf env σ) (h : AfN K mg E Hf H σ Q ((f env).bind u))
    (k : ∀ d v Hf' H', f env = .ok d → Fr Hf H Hf' H' → Rep K mg Hf' d v → AfN K mg E Hf' H' σ Q (u d) → R v H') : tD K mg E f σ H R := by
  refine ⟨Hf, env, s, r, ?_⟩
  cases q : f env with
  | un => rw [q] at h; exact h
  | er x => rw [q] at h; exact h
  | ok d => rw [q] at h; exact fun v Hf' H' fr rv => k d v Hf' H' q fr rv (AfN.tr fr h)
theorem AfN.give {l : List D} {xs : List V} {p : Addr} {Q : VK} (s : Same Hf H) (a : AfN K mg E Hf H σ Q (.ok l)) (hp : H p = none) (r : Reps K mg Hf l xs) : Q (.ref p) (upd H p (.lst xs)) :=
  a p xs Hf _ ⟨Same.refl _, upd_mono hp, s.trans (upd_mono hp), fun b h g => absurd h g⟩ hp (s.free hp) upd_same r
end
/-- what a list holds: of the program's own lists -/
def lstD : D → Option (List D)
  | .lst l => some l
  | _ => none
@[simp] theorem lstD_lst (l : List D) : lstD (.lst l) = some l := (rfl)
def nCat (fa fb : En → Oc D) : En → Oc (List D) := fun env => (fa env).bind fun x => (fb env).bind fun y => (Oc.ofO (lstD x)).bind fun a => (Oc.ofO (lstD y)).bind fun b => if a.length + b.length ≤ 1000000 then .ok (a ++ b) else .un
@[simp] theorem nCat_ap (fa fb : En → Oc D) (env : En) : nCat fa fb env = (fa env).bind fun x => (fb env).bind fun y => (Oc.ofO (lstD x)).bind fun a => (Oc.ofO (lstD y)).bind fun b => if a.length + b.length ≤ 1000000 then .ok (a ++ b) else .un := (rfl)
section
variable {X : Cx} {E : WX} {pos p : Pos} {a b : Expr} {fa fb : En → Oc D}
theorem n_cat (ha : PEd X E a fa) (hb : PEd X E b fb) : PNd X E (.BinOp a .Add b pos) (nCat fa fb) :=
  pe_imp (pe_op op_cat ha hb) fun σ H Q ⟨Hf, env, s, r, af⟩ => by
    show tD X.K X.mg E fa σ H fun x H1 => tD X.K X.mg E fb σ H1 fun y H2 => rCat x y H2 Q
    refine tD_bindN s r af fun d v Hf1 H1 e1 f1 r1 a1 => tD_bindN f1.fh (r.mono f1.ff) a1 fun d2 v2 Hf2 H2 e2 f2 r2 a2 => ?_
    cases d with
    | lst l =>
      cases d2 with
      | lst m =>
        have a2 : AfN X.K X.mg E Hf2 H2 σ Q (if l.length + m.length ≤ 1000000 then .ok (l ++ m) else .un) := a2
        by_cases hz : l.length + m.length ≤ 1000000
        · rw [if_pos hz] at a2
          unfold Rep at r1 r2
          obtain ⟨p1, xs, rfl, g1, t1⟩ := r1
          obtain ⟨p2, ys, rfl, g2, t2⟩ := r2
          refine ⟨p1, p2, xs, ys, rfl, rfl, f2.hh _ _ (f1.fh _ _ g1), f2.fh _ _ g2, by rw [t1.len, t2.len, sizeLine_eq]; omega, fun p hp => ?_⟩
          exact a2.give f2.fh hp ((Reps.mono f2.ff _ _ t1).append t2)
        · rw [if_neg hz] at a2; exact a2.elim
      | _ => exact a2.elim
    | _ => exact a2.elim
end
/-! ### slices -/
def cutD {α : Type} (l : List α) (lo hi : Option Int) : List α := (l.drop (HT.sIx l.length 0 lo)).take (HT.sIx l.length l.length hi - HT.sIx l.length 0 lo)
theorem Reps.cut {K : PySem.W.Frag} {mg : Str → Option Value} {Hf : Hp} {l : List D} {xs : List V} (r : Reps K mg Hf l xs) (lo hi : Option Int) : Reps K mg Hf (cutD l lo hi) (cutV xs lo hi) := by
  unfold cutD cutV
  rw [r.len]
  exact (r.drop _).take _
/-- a part of a slice -/
def tDO (K : PySem.W.Frag) (mg : Str → Option Value) (E : WX) (f : En → Oc (Option Int)) : TO := fun σ H Q => ∃ Hf env, Same Hf H ∧ EnR K mg Hf env σ ∧ (match f env with
  | .ok o => ∀ Hf' H', Fr Hf H Hf' H' → Q o H'
  | .er x => ∀ cls dd Hf' H', Fr Hf H Hf' H' → RepX K mg Hf' x cls dd → E cls dd σ H'
  | .un => False)
def POd (X : Cx) (E : WX) (e : Option Expr) (f : En → Oc (Option Int)) : Prop := PO X e (tDO X.K X.mg E f)
def oNo : En → Oc (Option Int) := fun _ => .ok none
def intD1 : D → Option Int
  | .int i => some i
  | _ => none
@[simp] theorem intD1_i (i : Int) : intD1 (.int i) = some i := (rfl)
def oE (f : En → Oc D) : En → Oc (Option Int) := fun env => (f env).bind fun d => (Oc.ofO (intD1 d)).bind fun i => .ok (some i)
@[simp] theorem oNo_ap (env : En) : oNo env = .ok none := (rfl)
@[simp] theorem oE_ap (f : En → Oc D) (env : En) : oE f env = (f env).bind fun d => (Oc.ofO (intD1 d)).bind fun i => .ok (some i) := (rfl)
theorem po_imp {X : Cx} {e : Option Expr} {t t' : TO} (h : PO X e t) (i : ∀ σ H Q, t' σ H Q → t σ H Q) : PO X e t' := ⟨fun pins s σ H Q I w => h.run pins s σ H Q I (i _ _ _ w)⟩
def nSl (f : En → Oc D) (lo hi : En → Oc (Option Int)) : En → Oc (List D) := fun env => (f env).bind fun d => (lo env).bind fun a => (hi env).bind fun b => (Oc.ofO (itemsD d)).bind fun lk => if lk.2 = true then .ok (cutD lk.1 a b) else .un
def tupD1 : D → Option (List D)
  | .tup l => some l
  | _ => none
@[simp] theorem tupD1_tup (l : List D) : tupD1 (.tup l) = some l := (rfl)
def eSl (f : En → Oc D) (lo hi : En → Oc (Option Int)) : En → Oc D := fun env => (f env).bind fun d => (lo env).bind fun a => (hi env).bind fun b => (Oc.ofO (tupD1 d)).bind fun l => .ok (.tup (cutD l a b))
@[simp] theorem nSl_ap (f : En → Oc D) (lo hi : En → Oc (Option Int)) (env : En) : nSl f lo hi env = (f env).bind fun d => (lo env).bind fun a => (hi env).bind fun b => (Oc.ofO (itemsD d)).bind fun lk => if lk.2 = true then .ok (cutD lk.1 a b) else .un := (rfl)
@[simp] theorem eSl_ap (f : En → Oc D) (lo hi : En → Oc (Option Int)) (env : En) : eSl f lo hi env = (f env).bind fun d => (lo env).bind fun a => (hi env).bind fun b => (Oc.ofO (tupD1 d)).bind fun l => .ok (.tup (cutD l a b)) := (rfl)
section
variable {X : Cx} {E : WX} {pos p p2 : Pos} {e : Expr} {lo hi : Option Expr} {f : En → Oc D} {fl fh : En → Oc (Option Int)}
theorem o_no : POd X E none oNo := po_imp po_none fun σ H Q ⟨Hf, env, s, r, af⟩ => af Hf H (Fr.refl s)
theorem o_e (h : PEd X E e f) : POd X E (some e) (oE f) := po_imp (po_some h) fun σ H Q ⟨Hf, env, s, r, af⟩ => by
  refine ⟨Hf, env, s, r, ?_⟩
  unfold oE at af
  cases q : f env with
  | un => rw [q] at af; exact af
  | er x => rw [q] at af; exact af
  | ok d =>
    rw [q] at af
    intro v Hf' H' fr rv
    cases d with
    | int i => exact ⟨i, rep_int rv, af Hf' H' fr⟩
    | _ => exact af.elim
theorem tDO_bindN {K : PySem.W.Frag} {mg : Str → Option Value} {Hf H : Hp} {σ : L2.St} {env : En} {f : En → Oc (Option Int)} {u : Option Int → Oc (List D)} {Q : VK} {R : Option Int → Hp → Prop} (s : Same Hf H) (r : EnR K mg Hf env σ) (h : AfN K mg E Hf H σ Q ((f env).bind u))
    (k : ∀ d Hf' H', f env = .ok d → Fr Hf H Hf' H' → AfN K mg E Hf' H' σ Q (u d) → R d H') : tDO K mg E f σ H R := by
  refine ⟨Hf, env, s, r, ?_⟩
  cases q : f env with
  | un => rw [q] at h; exact h
  | er x => rw [q] at h; exact h
  | ok d => rw [q] at h; exact fun Hf' H' fr => k d Hf' H' q fr (AfN.tr fr h)
theorem tDO_bind {K : PySem.W.Frag} {mg : Str → Option Value} {Hf H : Hp} {σ : L2.St} {env : En} {f : En → Oc (Option Int)} {u : Option Int → Oc D} {Q : VK} {R : Option Int → Hp → Prop} (s : Same Hf H) (r : EnR K mg Hf env σ) (h : Af K mg E Hf H σ Q ((f env).bind u))
    (k : ∀ d Hf' H', f env = .ok d → Fr Hf H Hf' H' → Af K mg E Hf' H' σ Q (u d) → R d H') : tDO K mg E f σ H R := by
  refine ⟨Hf, env, s, r, ?_⟩
  cases q : f env with
  | un => rw [q] at h; exact h
  | er x => rw [q] at h; exact h
  | ok d => rw [q] at h; exact fun Hf' H' fr => k d Hf' H' q fr (Af.tr fr h)
theorem n_sl (he : PEd X E e f) (hl : POd X E lo fl) (hh : POd X E hi fh) : PNd X E (.Subscript e (.Slice lo hi none p2) pos) (nSl f fl fh) :=
  pe_imp (pe_slice sl_list he hl hh) fun σ H Q ⟨Hf, env, s, r, af⟩ => by
    show tD X.K X.mg E f σ H fun x H1 => tDO X.K X.mg E fl σ H1 fun l H2 => tDO X.K X.mg E fh σ H2 fun u H3 => rSlL X.K x l u H3 Q
    refine tD_bindN s r af fun d v Hf1 H1 e1 f1 r1 a1 => tDO_bindN f1.fh (r.mono f1.ff) a1 fun l Hf2 H2 e2 f2 a2 => tDO_bindN f2.fh ((r.mono f1.ff).mono f2.ff) a2 fun u Hf3 H3 e3 f3 a3 => ?_
    have r1 := Rep.mono (f2.ff.trans f3.ff) _ _ r1
    cases d with
    | lst m =>
      unfold Rep at r1
      obtain ⟨q, xs, rfl, h1, h2⟩ := r1
      exact ⟨q, xs, rfl, SqL.of (f3.fh _ _ h1), fun p hp => AfN.give (l := cutD m l u) f3.fh a3 hp (h2.cut l u)⟩
    | scr m =>
      unfold Rep at r1
      obtain ⟨q, rfl, h1⟩ := r1
      exact ⟨q, _, rfl, f3.fh.seq h1, fun p hp => AfN.give (l := cutD (m.map .int) l u) f3.fh a3 hp (Reps.of_ints.cut l u)⟩
    | tup m => exact a3.elim
    | _ => exact a3.elim
theorem q_sl (he : PEd X E e f) (hl : POd X E lo fl) (hh : POd X E hi fh) : PEd X E (.Subscript e (.Slice lo hi none p2) pos) (eSl f fl fh) :=
  pe_imp (pe_slice sl_tupA he hl hh) fun σ H Q ⟨Hf, env, s, r, af⟩ => by
    show tD X.K X.mg E f σ H fun x H1 => tDO X.K X.mg E fl σ H1 fun l H2 => tDO X.K X.mg E fh σ H2 fun u H3 => rSlA X.K x l u H3 Q
    refine tD_bind s r af fun d v Hf1 H1 e1 f1 r1 a1 => tDO_bind f1.fh (r.mono f1.ff) a1 fun l Hf2 H2 e2 f2 a2 => tDO_bind f2.fh ((r.mono f1.ff).mono f2.ff) a2 fun u Hf3 H3 e3 f3 a3 => ?_
    have r1 := Rep.mono (f2.ff.trans f3.ff) _ _ r1
    cases d with
    | tup m =>
      have r0 := r1
      unfold Rep at r1
      obtain ⟨q, xs, rfl, h1, h2⟩ := r1
      have a3 : Af X.K X.mg E Hf3 H3 σ Q (.ok (.tup (cutD m l u))) := a3
      refine ⟨q, xs, rfl, same_t f3.fh h1, fun hz => ?_, fun hz p hp => ?_⟩
      · refine a3 _ Hf3 H3 (Fr.refl f3.fh) ?_
        have : cutD m l u = m := by
          unfold cutD
          rw [← h2.len, hz.1, hz.2, List.drop_zero, Nat.sub_zero, h2.len, List.take_length]
        rw [this]
        exact r0
      · exact a3 _ _ _ (Fr.new f3.fh hp) (rep_tup upd_same (Reps.mono (upd_mono (f3.fh.free hp)) _ _ (h2.cut l u)))
    | _ => exact a3.elim
end
/-! ### x[k] = e of the frame's own list -/
def sSet (i : Nat) (p : Nat → Bool) (fe fk : En → Oc D) (env : List Sl) : Out := match env[i]? with
  | some (.ow (.lst l)) => exO (frz p 0 env) ((fe (view p env)).bind fun d => (fk (view p env)).bind fun k => .ok [d, k]) fun dk => match dk with
    | [d, .int k] => if lf d = true ∨ p i = false then (match L2.ixN l.length k with
      | some n => .nx ((if lf d = true then env else frz p 0 env).set i (.own (l.set n d)))
      | none => .un) else .un
    | _ => .un
  | _ => .un
def setO (i : Nat) (p : Nat → Bool) (env : List Sl) (l : List D) : List D → Out := fun dk => match dk with
    | [d, .int k] => if lf d = true ∨ p i = false then (match L2.ixN l.length k with
      | some n => .nx ((if lf d = true then env else frz p 0 env).set i (.own (l.set n d)))
      | none => .un) else .un
    | _ => .un
theorem sSet_own {i : Nat} {p : Nat → Bool} {fe fk : En → Oc D} {env : List Sl} {l : List D} (h : env[i]? = some (.own l)) : sSet i p fe fk env = exO (frz p 0 env) ((fe (viewK p 0 env)).bind fun d => (fk (viewK p 0 env)).bind fun k => .ok [d, k]) (setO i p env l) := by
  unfold sSet setO
  rw [h]
  rfl
@[simp] theorem setO_ap (i : Nat) (p : Nat → Bool) (env : List Sl) (l : List D) (d : D) (k : Int) : setO i p env l [d, .int k] = if lf d = true ∨ p i = false then (match L2.ixN l.length k with
      | some n => .nx ((if lf d = true then env else frz p 0 env).set i (.own (l.set n d)))
      | none => .un) else .un := (rfl)
section
variable {X : Cx} {E : WX} {pos p1 p2 : Pos} {e k : Expr} {fe fk : En → Oc D}
theorem exO_ok_of {e : List Sl} {o : Oc (List D)} {k : List D → Out} {l : List D} (h : o = .ok l) : exO e o k = k l := by rw [h]; rfl
theorem s_set (p : Nat → Bool) {i : Nat} {x : Str} {px : Pos} (he : PEd X E e fe) (hk : PEd X E k fk) (hi : X.N[i]? = some x := by rfl) (hv : Vis X.env.scope x := by first | exact Or.inl rfl | exact Or.inr (Or.inl rfl) | exact Or.inr (Or.inr rfl))
    (hd : (x == ("__debug__" : Str)) = false := by decide) (hcd : (x == ("__classdict__" : Str)) = false := by decide)
    (ha : ∀ v, assign (.Subscript (.Name x px) k p1) X.env v = (do
      let ov ← holding [v] (eval (.Name x px) X.env)
      let iv ← holding [v, ov] (eval k X.env)
      standAt p1
      holding [v, ov, iv] (setItem ov iv v)
      release [v, ov, iv] []) := by intro _; rfl)
    (hs : swapsWithSole [.Subscript (.Name x px) k p1] e pos.line X.env = pure false := by rfl) (hw : swappedStores [.Subscript (.Name x px) k p1] e X.env = pure none := by rfl) (h1 : (assignEach [.Subscript (.Name x px) k p1] X.env).map (·.2) = [assign (.Subscript (.Name x px) k p1) X.env] := by rfl) :
    PSd X E (.Assign [.Subscript (.Name x px) k p1] e pos) (sSet i p fe fk) := by
  refine ps_imp (ps_asg he (pg_sub (pe_var (i := i) hi hv hd hcd) hk set_list ha) hs hw h1) fun D' σ H ⟨H0, Hf0, Hf, env, S, af⟩ => ?_
  show tD X.K X.mg E fe σ H fun v H1 => tVar i σ H1 fun o H2 => tD X.K X.mg E fk σ H2 fun j H3 => rSetL o j v H3 fun H4 => D'.nx σ H4
  unfold sSet at af
  split at af
  · rename_i l hown
    obtain ⟨a, _, g1, g2, g3, g4, xs, rfl, g5⟩ := S.ow i _ hown
    have S2 := S.frozen p
    refine ⟨hz p env σ Hf H, view p env, S.hz_le, S2.enr, ?_⟩
    cases q : fe (view p env) with
    | un => rw [q] at af; exact af
    | er x => rw [q] at af; exact fun cls dd Hf' H' fr r => af cls dd σ Hf' H' (S2.go fr) r
    | ok d =>
      rw [q] at af
      intro v Hf1 H1 f1 r1
      refine ⟨.ref a, g1, Hf1, view p env, f1.fh, S2.enr.mono f1.ff, ?_⟩
      cases q2 : fk (view p env) with
      | un => rw [q2] at af; exact af
      | er x => rw [q2] at af; exact fun cls dd Hf' H' fr r => af cls dd σ Hf' H' (S2.go (f1.trans fr)) r
      | ok kd =>
        rw [q2] at af
        intro w Hf2 H2 f2 r2
        have fr := f1.trans f2
        have r1 := Rep.mono f2.ff _ _ r1
        cases kd with
        | int j =>
          have af : AfS X.K X.mg E H0 Hf0 D' (if lf d = true ∨ p i = false then (match L2.ixN l.length j with
            | some n => .nx ((if lf d = true then env else frz p 0 env).set i (.own (l.set n d)))
            | none => .un) else .un) := af
          by_cases hc : lf d = true ∨ p i = false
          · rw [if_pos hc] at af
            cases q3 : L2.ixN l.length j with
            | none => rw [q3] at af; exact af.elim
            | some n =>
              rw [q3] at af
              have hH' : H2 a = some (.lst xs) := fr.hh _ _ g4
              refine ⟨a, xs, j, n, rfl, rep_int r2, hH', by rw [g5.len]; exact q3, ?_⟩
              by_cases hlf : lf d = true
              · rw [if_pos hlf] at af
                obtain ⟨S', dr, le⟩ := S.back fr
                obtain ⟨b, _, k1, k2, k3, k4, ys, rfl, k5⟩ := S'.ow i _ hown
                rw [g1] at k1
                cases k1
                rw [hH'] at k4
                cases k4
                exact af _ _ _ (S'.write hown g1 (k5.set n (Rep.drop dr d v hlf r1)))
              · rw [if_neg hlf] at af
                have S' := (S.frozen p).go fr
                have hown' := frz_own hown (hc.resolve_left hlf)
                obtain ⟨b, _, k1, k2, k3, k4, ys, rfl, k5⟩ := S'.ow i _ hown'
                rw [g1] at k1
                cases k1
                rw [hH'] at k4
                cases k4
                exact af _ _ _ (S'.write hown' g1 (k5.set n r1))
          · rw [if_neg hc] at af; exact af.elim
        | _ => exact af.elim
  · exact af.elim
end
/-! ### x[k] = a new list -/
def setNO (i : Nat) (p : Nat → Bool) (env : List Sl) (l m : List D) : D → Out
  | .int k => if lfs m = true ∨ p i = false then (match L2.ixN l.length k with
      | some n => .nx ((if lfs m = true then env else frz p 0 env).set i (.own (l.set n (.lst m))))
      | none => .un) else .un
  | _ => .un
@[simp] theorem setNO_ap (i : Nat) (p : Nat → Bool) (env : List Sl) (l m : List D) (k : Int) : setNO i p env l m (.int k) = if lfs m = true ∨ p i = false then (match L2.ixN l.length k with
      | some n => .nx ((if lfs m = true then env else frz p 0 env).set i (.own (l.set n (.lst m))))
      | none => .un) else .un := (rfl)
def sSetN (i : Nat) (p : Nat → Bool) (fe : En → Oc (List D)) (fk : En → Oc D) (env : List Sl) : Out := match env[i]? with
  | some (.ow (.lst l)) => exO (frz p 0 env) (fe (view p env)) fun m => exO (frz p 0 env) (fk (view p env)) (setNO i p env l m)
  | _ => .un
theorem sSetN_own {i : Nat} {p : Nat → Bool} {fe : En → Oc (List D)} {fk : En → Oc D} {env : List Sl} {l : List D} (h : env[i]? = some (.own l)) : sSetN i p fe fk env = exO (frz p 0 env) (fe (viewK p 0 env)) fun m => exO (frz p 0 env) (fk (viewK p 0 env)) (setNO i p env l m) := by
  unfold sSetN
  rw [h]
  rfl
theorem Fr.withN {Hf H Hf' H' : Hp} {a : Addr} {ys : List V} (fr : Fr Hf H Hf' H') (n1 : H a = none) (n2 : Hf' a = none) (hp : H' a = some (.lst ys)) : Fr Hf H (upd Hf' a (.lst ys)) H' :=
  ⟨fr.ff.trans (upd_mono n2), fr.hh, fun b o e => by
    by_cases q : b = a
    · rw [q, upd_same] at e; rw [q, hp]; exact e
    · rw [upd_ne q] at e; exact fr.fh _ _ e, fun b q1 q2 => by
    by_cases q : b = a
    · rw [q]; exact n1
    · rw [upd_ne q] at q2; exact fr.nw b q1 q2⟩
section
variable {X : Cx} {E : WX} {pos p1 p2 : Pos} {e k : Expr} {fe : En → Oc (List D)} {fk : En → Oc D}
theorem s_setN (p : Nat → Bool) {i : Nat} {x : Str} {px : Pos} (he : PNd X E e fe) (hk : PEd X E k fk) (hi : X.N[i]? = some x := by rfl) (hv : Vis X.env.scope x := by first | exact Or.inl rfl | exact Or.inr (Or.inl rfl) | exact Or.inr (Or.inr rfl))
    (hd : (x == ("__debug__" : Str)) = false := by decide) (hcd : (x == ("__classdict__" : Str)) = false := by decide)
    (ha : ∀ v, assign (.Subscript (.Name x px) k p1) X.env v = (do
      let ov ← holding [v] (eval (.Name x px) X.env)
      let iv ← holding [v, ov] (eval k X.env)
      standAt p1
      holding [v, ov, iv] (setItem ov iv v)
      release [v, ov, iv] []) := by intro _; rfl)
    (hs : swapsWithSole [.Subscript (.Name x px) k p1] e pos.line X.env = pure false := by rfl) (hw : swappedStores [.Subscript (.Name x px) k p1] e X.env = pure none := by rfl) (h1 : (assignEach [.Subscript (.Name x px) k p1] X.env).map (·.2) = [assign (.Subscript (.Name x px) k p1) X.env] := by rfl) :
    PSd X E (.Assign [.Subscript (.Name x px) k p1] e pos) (sSetN i p fe fk) := by
  refine ps_imp (ps_asg he (pg_sub (pe_var (i := i) hi hv hd hcd) hk set_list ha) hs hw h1) fun D' σ H ⟨H0, Hf0, Hf, env, S, af⟩ => ?_
  show tDN X.K X.mg E fe σ H fun v H1 => tVar i σ H1 fun o H2 => tD X.K X.mg E fk σ H2 fun j H3 => rSetL o j v H3 fun H4 => D'.nx σ H4
  unfold sSetN at af
  split at af
  · rename_i l hown
    obtain ⟨a, _, g1, g2, g3, g4, xs, rfl, g5⟩ := S.ow i _ hown
    have S2 := S.frozen p
    refine ⟨hz p env σ Hf H, view p env, S.hz_le, S2.enr, ?_⟩
    cases q : fe (view p env) with
    | un => rw [q] at af; exact af
    | er x => rw [q] at af; exact fun cls dd Hf' H' fr r => af cls dd σ Hf' H' (S2.go fr) r
    | ok m =>
      rw [q] at af
      intro b ys Hf1 H1 f1 n1 n2 hb rm
      have f1 := f1.withN n1 n2 hb
      have rm := Reps.mono (upd_mono (o := .lst ys) n2) _ _ rm
      have af : AfS X.K X.mg E H0 Hf0 D' (exO (frz p 0 env) (fk (view p env)) (setNO i p env l m)) := af
      refine ⟨.ref a, g1, upd Hf1 b (.lst ys), view p env, f1.fh, S2.enr.mono f1.ff, ?_⟩
      cases q2 : fk (view p env) with
      | un => rw [q2] at af; exact af
      | er x => rw [q2] at af; exact fun cls dd Hf' H' fr r => af cls dd σ Hf' H' (S2.go (f1.trans fr)) r
      | ok kd =>
        rw [q2] at af
        intro w Hf2 H2 f2 r2
        have fr := f1.trans f2
        have rm := Reps.mono f2.ff _ _ rm
        have hb2 : Hf2 b = some (.lst ys) := f2.ff _ _ upd_same
        cases kd with
        | int j =>
          have af : AfS X.K X.mg E H0 Hf0 D' (setNO i p env l m (.int j)) := af
          rw [setNO_ap] at af
          by_cases hc : lfs m = true ∨ p i = false
          · rw [if_pos hc] at af
            cases q3 : L2.ixN l.length j with
            | none => rw [q3] at af; exact af.elim
            | some n =>
              rw [q3] at af
              have hH' : H2 a = some (.lst xs) := fr.hh _ _ g4
              refine ⟨a, xs, j, n, rfl, rep_int r2, hH', by rw [g5.len]; exact q3, ?_⟩
              by_cases hlf : lfs m = true
              · rw [if_pos hlf] at af
                obtain ⟨S', dr, le⟩ := S.back fr
                obtain ⟨c, _, k1, k2, k3, k4, zs, rfl, k5⟩ := S'.ow i _ hown
                rw [g1] at k1
                cases k1
                rw [hH'] at k4
                cases k4
                have hu : unz p env σ Hf2 b = some (.lst ys) := by
                  unfold unz
                  rw [if_neg]
                  · exact hb2
                  · intro z
                    obtain ⟨_, _, _, z3, _⟩ := S.own_at z
                    rw [n1] at z3; cases z3
                exact af _ _ _ (S'.write hown g1 (k5.set n (rep_lst hu (Reps.drop' dr m ys hlf rm))))
              · rw [if_neg hlf] at af
                have S' := (S.frozen p).go fr
                have hown' := frz_own hown (hc.resolve_left hlf)
                obtain ⟨c, _, k1, k2, k3, k4, zs, rfl, k5⟩ := S'.ow i _ hown'
                rw [g1] at k1
                cases k1
                rw [hH'] at k4
                cases k4
                exact af _ _ _ (S'.write hown' g1 (k5.set n (rep_lst hb2 rm)))
          · rw [if_neg hc] at af; exact af.elim
        | _ => exact af.elim
  · exact af.elim
end
/-! ### a, b = e1, e2 -/
def parO (i j : Nat) (p : Nat → Bool) (env : List Sl) : List D → Out := fun ds => match ds with
  | [d, e] => .nx (((if lfs ds = true then env else frz p 0 env).set i (.sh d)).set j (.sh e))
  | _ => .un
@[simp] theorem parO_ap (i j : Nat) (p : Nat → Bool) (env : List Sl) (d e : D) : parO i j p env [d, e] = .nx (((if lfs [d, e] = true then env else frz p 0 env).set i (.sh d)).set j (.sh e)) := (rfl)
def sPar (i j : Nat) (p : Nat → Bool) (fs : En → Oc (List D)) (env : List Sl) : Out := exO (frz p 0 env) (fs (view p env)) (parO i j p env)
@[simp] theorem sPar_ap (i j : Nat) (p : Nat → Bool) (fs : En → Oc (List D)) (env : List Sl) : sPar i j p fs env = exO (frz p 0 env) (fs (viewK p 0 env)) (parO i j p env) := (rfl)
section
variable {X : Cx} {E : WX} {pos px py pt pt2 : Pos} {a b : Expr} {fs : En → Oc (List D)}
theorem s_par (p : Nat → Bool) {i j : Nat} {x y : Str} {kt k2} (hc : X.calm = true) (hN : X.N.Nodup) (ha : PAd X E [a, b] fs) (hw : swappedStores [.Tuple [.Name x px, .Name y py] kt pt] (.Tuple [a, b] k2 pt2) X.env = pure (some [x, y]) := by rfl) (hi : X.N[i]? = some x := by rfl) (hj : X.N[j]? = some y := by rfl) (hij : i ≠ j := by decide)
    (hx : X.env.scope.names.lookup x = some .local := by rfl) (hy : X.env.scope.names.lookup y = some .local := by rfl)
    (hs : swapsWithSole [.Tuple [.Name x px, .Name y py] kt pt] (.Tuple [a, b] k2 pt2) pos.line X.env = pure false := by rfl) : PSd X E (.Assign [.Tuple [.Name x px, .Name y py] kt pt] (.Tuple [a, b] k2 pt2) pos) (sPar i j p fs) :=
  ps_imp (ps_par hc hN hi hj hij hx hy ha hw hs) fun D' σ H ⟨H0, Hf0, Hf, env, S, af⟩ => by
    show tDL X.K X.mg E fs σ H fun vs H1 => ∃ v w, vs = [v, w] ∧ D'.nx ((σ.set i (some v)).set j (some w)) H1
    have S2 := S.frozen p
    refine ⟨hz p env σ Hf H, view p env, S.hz_le, S2.enr, ?_⟩
    unfold sPar at af
    cases q : fs (view p env) with
    | un => rw [q] at af; exact af
    | er x => rw [q] at af; exact fun cls dd Hf' H' fr r => af cls dd σ Hf' H' (S2.go fr) r
    | ok ds =>
      rw [q] at af
      intro vs Hf' H' fr rv
      have af : AfS X.K X.mg E H0 Hf0 D' (parO i j p env ds) := af
      unfold parO at af
      split at af
      · rename_i d e _
        have rv0 := rv
        unfold Reps at rv
        obtain ⟨v, r1, rfl, rd, rv⟩ := rv
        unfold Reps at rv
        obtain ⟨w, r2, rfl, re, rv⟩ := rv
        unfold Reps at rv
        subst rv
        refine ⟨v, w, rfl, ?_⟩
        by_cases hl : lfs [d, e] = true
        · rw [if_pos hl] at af
          obtain ⟨S', dr, _⟩ := S.back fr
          have rr := Reps.drop' dr [d, e] [v, w] hl rv0
          unfold Reps at rr
          obtain ⟨v', r1, h1, rd', rr⟩ := rr
          unfold Reps at rr
          obtain ⟨w', r2, h2, re', rr⟩ := rr
          cases h1
          cases h2
          exact af _ _ H' ((S'.put rd' i).put re' j)
        · rw [if_neg hl] at af
          have S' := S2.go fr
          exact af _ _ H' ((S'.put rd i).put re j)
      · exact af.elim
end

/-! ### facts of classes, as the top has written them -/
theorem clsIn_of {K : PySem.W.Frag} {C : Addr} (hd : PySem.W.hasDictIn K C = true) : (PySem.W.clsIn K C).isSome = true := by
  unfold PySem.W.hasDictIn at hd
  cases q : PySem.W.clsIn K C with
  | none => rw [q] at hd; cases hd
  | some c => rfl
theorem kit_cls {K : PySem.W.Frag} {t : Value} {C : Addr} {b : Bool} (h : PySem.W.subIn K t (.ref C) = some b) (hd : PySem.W.hasDictIn K C = true) (ht : PySem.W.typeIn K (.ref C) = some (.type "type")) : PySem.W.kitCls K t (.ref C) = some b := by
  have e : ((PySem.W.clsIn K C).isSome && PySem.W.typeIn K (.ref C) == some (.type "type")) = true := by rw [clsIn_of hd, ht]; rfl
  exact (if_pos e).trans h
theorem kit_t {K : PySem.W.Frag} {D C : Addr} (h : PySem.W.subIn K (.ref D) (.ref C) = some true) (hd : PySem.W.hasDictIn K C = true) (ht : PySem.W.typeIn K (.ref C) = some (.type "type")) : PySem.W.kitOne K (.ref D) (.ref C) = some true := by
  unfold PySem.W.kitOne
  split
  · rfl
  · exact kit_cls h hd ht
theorem kit_f {K : PySem.W.Frag} {D C : Addr} (h : PySem.W.subIn K (.ref D) (.ref C) = some false) (hs : PySem.W.subIn K (.ref C) (.ref C) = some true) (hd : PySem.W.hasDictIn K C = true) (ht : PySem.W.typeIn K (.ref C) = some (.type "type")) : PySem.W.kitOne K (.ref D) (.ref C) = some false := by
  unfold PySem.W.kitOne
  rw [if_neg]
  · exact kit_cls h hd ht
  · intro z
    rw [eq_of_beq z] at h
    rw [hs] at h
    cases h
theorem kit_b {K : PySem.W.Frag} {D : Addr} {T : String} {b : Bool} (h : PySem.W.subIn K (.ref D) (.type T) = some b) (hm : PySem.W.kitMeta T = true) : PySem.W.kitOne K (.ref D) (.type T) = some b := by
  unfold PySem.W.kitOne
  rw [if_neg (by intro z; have := eq_of_beq z; cases this)]
  exact (if_pos hm).trans h
def AllC (mg : Str → Option Value) (P : Addr → Prop) (cs : List Str) : Prop := ∀ c ∈ cs, ∀ D, mg c = some (.ref D) → P D
theorem allC_nil {mg : Str → Option Value} {P : Addr → Prop} : AllC mg P [] := fun c h => by simp at h
theorem allC_cons {mg : Str → Option Value} {P : Addr → Prop} {c : Str} {cs : List Str} {D : Addr} (hm : mg c = some (.ref D)) (h : P D) (r : AllC mg P cs) : AllC mg P (c :: cs) := fun c' h' D' e => by
  rcases List.mem_cons.mp h' with rfl | h'
  · rw [hm] at e; cases e; exact h
  · exact r c' h' D' e
theorem tryC_of {K : PySem.W.Frag} {mg : Str → Option Value} {x : Str} {yes no : List Str} {C : Addr} (hm : mg x = some (.ref C)) (h1 : PySem.W.subIn K (.ref C) (.type "BaseException") = some true) (hd : PySem.W.hasDictIn K C = true) (ht : PySem.W.typeIn K (.ref C) = some (.type "type"))
    (hy : AllC mg (fun D => PySem.W.subIn K (.ref D) (.ref C) = some true) yes) (hn : AllC mg (fun D => PySem.W.subIn K (.ref D) (.ref C) = some false) no) : TryC K mg x yes no :=
  ⟨⟨C, hm, fun c hc D e => PySem.W.exm_ref h1 hd ht (hy c hc D e), fun c hc D e => PySem.W.exm_ref h1 hd ht (hn c hc D e)⟩⟩
structure IsTo (K : PySem.W.Frag) (mg : Str → Option Value) (z : Str) (yes no : List Str) : Prop where
  ex : ∃ C2, mg z = some (.ref C2) ∧ IsT K mg (.ref C2) yes no ∧ ∀ c, c ∈ yes ∨ c ∈ no → ErI K mg c
structure IsTb (K : PySem.W.Frag) (mg : Str → Option Value) (z : Str) (T : String) (yes no : List Str) : Prop where
  hm : mg z = none
  it : IsT K mg (.type T) yes no
  ei : ∀ c, c ∈ yes ∨ c ∈ no → ErI K mg c
def AllE (K : PySem.W.Frag) (mg : Str → Option Value) (cs : List Str) : Prop := ∀ c ∈ cs, ErI K mg c
theorem allE_nil {K : PySem.W.Frag} {mg : Str → Option Value} : AllE K mg [] := fun c h => by simp at h
theorem allE_cons {K : PySem.W.Frag} {mg : Str → Option Value} {c : Str} {cs : List Str} (h : ErI K mg c) (r : AllE K mg cs) : AllE K mg (c :: cs) := fun c' h' => by
  rcases List.mem_cons.mp h' with rfl | h'
  · exact h
  · exact r c' h'
theorem isTo_of {K : PySem.W.Frag} {mg : Str → Option Value} {z : Str} {yes no : List Str} {C : Addr} (hm : mg z = some (.ref C)) (hy : AllC mg (fun D => PySem.W.kitOne K (.ref D) (.ref C) = some true) yes) (hn : AllC mg (fun D => PySem.W.kitOne K (.ref D) (.ref C) = some false) no) (h1 : AllE K mg yes) (h2 : AllE K mg no) : IsTo K mg z yes no :=
  ⟨⟨C, hm, ⟨hy, hn⟩, fun c h => h.elim (h1 c) (h2 c)⟩⟩
theorem isTb_of {K : PySem.W.Frag} {mg : Str → Option Value} {z : Str} {T : String} {yes no : List Str} (hm : mg z = none) (hy : AllC mg (fun D => PySem.W.kitOne K (.ref D) (.type T) = some true) yes) (hn : AllC mg (fun D => PySem.W.kitOne K (.ref D) (.type T) = some false) no) (h1 : AllE K mg yes) (h2 : AllE K mg no) : IsTb K mg z T yes no :=
  ⟨hm, ⟨hy, hn⟩, fun c h => h.elim (h1 c) (h2 c)⟩
section
variable {X : Cx} {E : WX} {pos p p1 p2 : Pos} {a : Addr} {oe : Obj} {cls : Value} {d : Option Addr} {x : D} {pn : List (Addr × Obj)}
theorem q_isXc (i : Nat) {y z : Str} {yes no : List Str} (h : Held X.K X.mg oe cls d x) (T : IsTo X.K X.mg z yes no) (hm : X.mg "isinstance" = none) (hgz : Gl (X.suite a ((a, oe) :: pn)) z := by rfl) (hdz : (z == ("__debug__" : Str)) = false := by decide)
    (hN : X.N[i]? = some y := by rfl) (hv : Vis (X.suite a ((a, oe) :: pn)).env.scope y := by first | exact Or.inl rfl | exact Or.inr (Or.inl rfl) | exact Or.inr (Or.inr rfl)) (hg : Gl (X.suite a ((a, oe) :: pn)) "isinstance" := by rfl)
    (hd : (y == ("__debug__" : Str)) = false := by decide) (hcd : (y == ("__classdict__" : Str)) = false := by decide)
    (he1 : starEach [.Name y p1, .Name z p2] (X.suite a ((a, oe) :: pn)).env = (false, eval (.Name y p1) (X.suite a ((a, oe) :: pn)).env) :: starEach [.Name z p2] (X.suite a ((a, oe) :: pn)).env := by rfl)
    (he2 : starEach [.Name z p2] (X.suite a ((a, oe) :: pn)).env = (false, eval (.Name z p2) (X.suite a ((a, oe) :: pn)).env) :: starEach [] (X.suite a ((a, oe) :: pn)).env := by rfl)
    (hpl : (backTo pos (starEach [.Name z p2] (X.suite a ((a, oe) :: pn)).env)).any (·.1) = false := by rfl) :
    PEd (X.suite a ((a, oe) :: pn)) E (.Call (.Name "isinstance" p) [.Name y p1, .Name z p2] [] pos) (eIsX i yes no a x) := by
  obtain ⟨C2, h1, h2, h3⟩ := T.ex
  exact q_isX i h h2 h3 hm (pe_glob (v := .ref C2) hgz h1 rfl hdz) (fun u r => r) hN hv hg hd hcd he1 he2 hpl
theorem q_isXb (i : Nat) {y z : Str} {T : String} {yes no : List Str} (h : Held X.K X.mg oe cls d x) (T0 : IsTb X.K X.mg z T yes no) (hm : X.mg "isinstance" = none) (hb : bootBuiltins z = some (.type T)) (hgz : Gl (X.suite a ((a, oe) :: pn)) z := by rfl) (hnz : z ≠ "__name__" := by decide) (hdz : (z == ("__debug__" : Str)) = false := by decide)
    (hN : X.N[i]? = some y := by rfl) (hv : Vis (X.suite a ((a, oe) :: pn)).env.scope y := by first | exact Or.inl rfl | exact Or.inr (Or.inl rfl) | exact Or.inr (Or.inr rfl)) (hg : Gl (X.suite a ((a, oe) :: pn)) "isinstance" := by rfl)
    (hd : (y == ("__debug__" : Str)) = false := by decide) (hcd : (y == ("__classdict__" : Str)) = false := by decide)
    (he1 : starEach [.Name y p1, .Name z p2] (X.suite a ((a, oe) :: pn)).env = (false, eval (.Name y p1) (X.suite a ((a, oe) :: pn)).env) :: starEach [.Name z p2] (X.suite a ((a, oe) :: pn)).env := by rfl)
    (he2 : starEach [.Name z p2] (X.suite a ((a, oe) :: pn)).env = (false, eval (.Name z p2) (X.suite a ((a, oe) :: pn)).env) :: starEach [] (X.suite a ((a, oe) :: pn)).env := by rfl)
    (hpl : (backTo pos (starEach [.Name z p2] (X.suite a ((a, oe) :: pn)).env)).any (·.1) = false := by rfl) :
    PEd (X.suite a ((a, oe) :: pn)) E (.Call (.Name "isinstance" p) [.Name y p1, .Name z p2] [] pos) (eIsX i yes no a x) :=
  q_isX i h T0.it T0.ei hm (pe_bltn (v := .ty T) hgz T0.hm hb rfl hnz hdz) (fun u r => r) hN hv hg hd hcd he1 he2 hpl
end
end Sem
namespace Sem
open PySem PySem.Spec L2
theorem whGo_no {c : En → Oc Bool} {body : List Sl → Out} {n : Nat} {env : List Sl} (h : c (viewK allN 0 env) = .ok false) : whGo c body (n + 1) env = .nx env := by
  unfold whGo
  rw [view_k, h]
  rfl
theorem whGo_yes {c : En → Oc Bool} {body : List Sl → Out} {n : Nat} {env e : List Sl} (h : c (viewK allN 0 env) = .ok true) (hb : body env = .nx e) : whGo c body (n + 1) env = whGo c body n e := by
  conv => lhs; unfold whGo
  rw [view_k, h, exO_ok, if_pos rfl, hb]
theorem sWhile_of {c : En → Oc Bool} {body : List Sl → Out} {env e : List Sl} (n : Nat) (h : whGo c body n env = .nx e) : sWhile c body env = .nx e := by
  rw [sWhile_eq (n := n) (by rw [h]; exact fun z => by cases z), h]
theorem sWhile_no {c : En → Oc Bool} {body : List Sl → Out} {env : List Sl} (h : c (viewK allN 0 env) = .ok false) : sWhile c body env = .nx env := sWhile_of 1 (whGo_no h)
@[simp] theorem gcdD_ii (i j : Int) : gcdD [.int i, .int j] = some (.int ((Nat.gcd i.natAbs j.natAbs : Nat) : Int)) := (rfl)
theorem frz1_not {p : Nat → Bool} {k : Nat} (s : Sl) (h : p k = false) : frz1 p k s = s := by
  cases s with
  | no => rfl
  | sh d => rfl
  | ow o => exact if_neg (by rw [h]; exact Bool.false_ne_true)
theorem forGo_two (T : D → List Sl → Option (List Sl)) (b : List Sl → Out) (d : D) (r : List D) (env : List Sl) : forGo T b (d :: r) env = (match T d env with
    | none => .un
    | some e1 => match b e1 with
      | .nx e => forGo T b r e
      | .ct e => forGo T b r e
      | .bk e => .nx e
      | .rt v => .rt v
      | .rs x e => .rs x e
      | .un => .un) := forGo_cons T b d r env
theorem ite_nx {c : Prop} [Decidable c] (a b : List Sl) : (if c then Out.nx a else Out.nx b) = Out.nx (if c then a else b) := by split <;> rfl
theorem ite_cons {α : Type} {c : Prop} [Decidable c] (a b : α) (l m : List α) : (if c then a :: l else b :: m) = (if c then a else b) :: (if c then l else m) := by split <;> rfl
theorem ite_sh {c : Prop} [Decidable c] (a b : D) : (if c then Sl.sh a else Sl.sh b) = Sl.sh (if c then a else b) := by split <;> rfl
theorem ite_tup {c : Prop} [Decidable c] (a b : List D) : (if c then D.tup a else D.tup b) = D.tup (if c then a else b) := by split <;> rfl
theorem sSeq_assoc (a b r : List Sl → Out) (env : List Sl) : sSeq a (sSeq b r) env = (sSeq a b env).seq r := by
  unfold sSeq
  cases a env <;> rfl
theorem GoOn_seqE {α : Type} {W : List Sl → Prop} {o : Out} {g : List Sl → Out} (F : α → List Sl) (h : ∃ y, o = .nx (F y)) (k : ∀ y, GoOn W (g (F y))) : GoOn W (o.seq g) := by
  obtain ⟨y, h⟩ := h
  rw [h]
  exact k y
@[simp] theorem isD_bb (a b : Bool) : isD (.bl a) (.bl b) = some (.bl (decide (a = b))) := (rfl)
@[simp] theorem isNotD_bb (a b : Bool) : isNotD (.bl a) (.bl b) = some (.bl (!decide (a = b))) := (rfl)
@[simp] theorem isNotD_bn (a : Bool) : isNotD (.bl a) .non = some (.bl true) := (rfl)
@[simp] theorem isNotD_sn (a : Str) : isNotD (.str a) .non = some (.bl true) := (rfl)
@[simp] theorem isNotD_ln (a : List D) : isNotD (.lst a) .non = some (.bl true) := (rfl)
@[simp] theorem isD_ln (a : List D) : isD (.lst a) .non = some (.bl false) := (rfl)
theorem GoOn_seqP {α : Type} {W : List Sl → Prop} {o : Out} {g : List Sl → Out} (P : α → Prop) (F : α → List Sl) (h : ∃ y, P y ∧ o = .nx (F y)) (k : ∀ y, P y → GoOn W (g (F y))) : GoOn W (o.seq g) := by
  obtain ⟨y, p, h⟩ := h
  rw [h]
  exact k y p
end Sem

namespace Wk
open PySem PySem.Spec L2 Sem
def top (i : Nat) : Stmt := PySem.Challenge.pw_stopsandlaps_k00_fractions.main.body.getD i (.Pass ⟨0, 0, 0, 0⟩)
/-- the built-ins that the text names -/
structure Bt (mg : Str → Option Value) : Prop where
  ValueError : mg "ValueError" = none
  abs : mg "abs" = none
  bool : mg "bool" = none
  gcd : mg "gcd" = some (.builtin "math.gcd")
  int : mg "int" = none
  isinstance : mg "isinstance" = none
  len : mg "len" = none
  list : mg "list" = none
  range : mg "range" = none
  str : mg "str" = none
  tuple : mg "tuple" = none
theorem bb_ValueError : bootBuiltins "ValueError" = some (.type "ValueError") := by decide +kernel
theorem bb_abs : bootBuiltins "abs" = some (.builtin "abs") := by decide +kernel
theorem bb_bool : bootBuiltins "bool" = some (.type "bool") := by decide +kernel
theorem bb_int : bootBuiltins "int" = some (.type "int") := by decide +kernel
theorem bb_isinstance : bootBuiltins "isinstance" = some (.builtin "isinstance") := by decide +kernel
theorem bb_len : bootBuiltins "len" = some (.builtin "len") := by decide +kernel
theorem bb_list : bootBuiltins "list" = some (.type "list") := by decide +kernel
theorem bb_str : bootBuiltins "str" = some (.type "str") := by decide +kernel
theorem bb_tuple : bootBuiltins "tuple" = some (.type "tuple") := by decide +kernel
abbrev s_law_cell : Stmt := top 18
theorem sc_law_cell : FnScope ["script", "k", "seed", "cell"] ["script", "k"] (defScope s_law_cell) := ⟨rfl, rfl, rfl, by decide +kernel, rfl, by decide +kernel, by decide +kernel⟩
def g_law_cell_b1 : List Sl → Out :=
(sAsg (tN 2) (inL [2, 3]) (eBin modD (eB intD (aCons (eBin addD (eBin mulD (eV 2) (eC (.int 31))) (eBin modD (eB intD (aCons (eV 3) aNil)) (eC (.int 1000003)))) aNil)) (eC (.int 1000003))))
def g_law_cell : List Sl → Out :=
(sSeq (sIf (cCmp ltD (eV 1) (eB lenD (aCons (eV 0) aNil)))
(sRet (eBin ixD (eV 0) (eV 1)))
sNx)
(sSeq (sAsg (tN 2) (inL []) (eC (.int 17)))
(sSeq (sFor (tN 3) (inL [0]) (iS (eV 0))
g_law_cell_b1)
(sRet (eBin modD (eB intD (aCons (eBin mulD (eBin mulD (eBin addD (eV 2) (eC (.int 7))) (eBin addD (eV 1) (eC (.int 3)))) (eC (.int 69621))) aNil)) (eC (.int 2147483647)))))))
def m_law_cell : List D → Oc D := runB 4 g_law_cell
abbrev s_law_digits : Stmt := top 19
theorem sc_law_digits : FnScope ["cell", "sizes", "row", "rest", "bound", "seed", "k", "twice"] ["cell", "sizes"] (defScope s_law_digits) := ⟨rfl, rfl, rfl, by decide +kernel, rfl, by decide +kernel, by decide +kernel⟩
def g_law_digits_b1 : List Sl → Out :=
(sSeq (sApp 2 (inL [3, 4]) (eBin modD (eB intD (aCons (eV 3) aNil)) (eV 4)))
(sAsg (tN 3) (inL [3, 4]) (eBin fdivD (eB intD (aCons (eV 3) aNil)) (eV 4))))
def g_law_digits_b2 : List Sl → Out :=
(sSeq (sAsg (tN 5) (inL [5, 6]) (eBin modD (eB intD (aCons (eBin addD (eBin addD (eBin mulD (eV 5) (eC (.int 48271))) (eBin mulD (eC (.int 974711)) (eV 6))) (eC (.int 12345))) aNil)) (eC (.int 2147483647))))
(sSeq (sAsg (tN 7) (inL [5]) (eBin modD (eB intD (aCons (eBin mulD (eV 5) (eBin addD (eBin fdivD (eV 5) (eC (.int 65537))) (eC (.int 3)))) aNil)) (eC (.int 2147483629))))
(sApp 2 (inL [1, 6, 7]) (eBin modD (eBin fdivD (eV 7) (eC (.int 19))) (eBin ixD (eV 1) (eV 6))))))
def g_law_digits : List Sl → Out :=
(sSeq (sNew 2 (inL []) (nLst aNil))
(sSeq (sAsg (tN 3) (inL [0]) (eB intD (aCons (eV 0) aNil)))
(sSeq (sIf (cCmp geD (eV 3) (eBin powD (eC (.int 10)) (eC (.int 18))))
(sSeq (sAsg (tN 3) (inL [3]) (eBin subD (eV 3) (eBin powD (eC (.int 10)) (eC (.int 18)))))
(sSeq (sFor (tN 4) (inL [1]) (iS (eV 1))
g_law_digits_b1)
(sRet (eV 2))))
sNx)
(sSeq (sAsg (tN 5) (inL [3]) (eBin modD (eB intD (aCons (eV 3) aNil)) (eC (.int 2147483629))))
(sSeq (sFor (tN 6) (inL [1]) (iR1 (eB lenD (aCons (eV 1) aNil)))
g_law_digits_b2)
(sRet (eV 2)))))))
def m_law_digits : List D → Oc D := runB 8 g_law_digits
abbrev s_law_gcd : Stmt := top 20
theorem sc_law_gcd : FnScope ["a", "b", "one", "two", "rest"] ["a", "b"] (defScope s_law_gcd) := ⟨rfl, rfl, rfl, by decide +kernel, rfl, by decide +kernel, by decide +kernel⟩
noncomputable def g_law_gcd_b1 : List Sl → Out :=
(sSeq (sAsg (tN 4) (inL [2, 3]) (eBin modD (eB intD (aCons (eV 2) aNil)) (eV 3)))
(sSeq (sAsg (tN 2) (inL [3]) (eV 3))
(sAsg (tN 3) (inL [4]) (eV 4))))
noncomputable def g_law_gcd : List Sl → Out :=
(sSeq (sAsg (tN 2) (inL [0]) (eB absD (aCons (eB intD (aCons (eV 0) aNil)) aNil)))
(sSeq (sAsg (tN 3) (inL [1]) (eB absD (aCons (eB intD (aCons (eV 1) aNil)) aNil)))
(sSeq (sWhile (cCmp neD (eV 3) (eC (.int 0)))
g_law_gcd_b1)
(sRet (eV 2)))))
noncomputable def m_law_gcd : List D → Oc D := runB 5 g_law_gcd
abbrev s_law_fraction : Stmt := top 21
theorem sc_law_fraction : FnScope ["top", "bottom", "common"] ["top", "bottom"] (defScope s_law_fraction) := ⟨rfl, rfl, rfl, by decide +kernel, rfl, by decide +kernel, by decide +kernel⟩
noncomputable def g_law_fraction (self : List D → Oc D) : List Sl → Out :=
(sSeq (sIf (cCmp ltD (eV 1) (eC (.int 0)))
(sRet (eCall 2 self (aCons (eUn negD (eV 0)) (aCons (eUn negD (eV 1)) aNil))))
sNx)
(sSeq (sAsg (tN 2) (inL [0, 1]) (eCall 2 m_law_gcd (aCons (eV 0) (aCons (eV 1) aNil))))
(sRet (eTup (aCons (eBin fdivD (eV 0) (eV 2)) (aCons (eBin fdivD (eV 1) (eV 2)) aNil))))))
noncomputable def m_law_fraction : Nat → List D → Oc D
  | 0 => fun _ => .un
  | n + 1 => runB 3 (g_law_fraction (m_law_fraction n))
abbrev s_law_minus : Stmt := top 23
theorem sc_law_minus : FnScope ["one", "two"] ["one", "two"] (defScope s_law_minus) := ⟨rfl, rfl, rfl, by decide +kernel, rfl, by decide +kernel, by decide +kernel⟩
noncomputable def g_law_minus : List Sl → Out :=
(sRet (eCall 2 (m_law_fraction 2) (aCons (eBin subD (eBin mulD (eBin ixD (eV 0) (eC (.int 0))) (eBin ixD (eV 1) (eC (.int 1)))) (eBin mulD (eBin ixD (eV 1) (eC (.int 0))) (eBin ixD (eV 0) (eC (.int 1))))) (aCons (eBin mulD (eBin ixD (eV 0) (eC (.int 1))) (eBin ixD (eV 1) (eC (.int 1)))) aNil))))
noncomputable def m_law_minus : List D → Oc D := runB 2 g_law_minus
abbrev s_law_pair : Stmt := top 27
theorem sc_law_pair : FnScope ["pick", "small", "low", "great", "deep"] ["pick", "small", "low", "great", "deep"] (defScope s_law_pair) := ⟨rfl, rfl, rfl, by decide +kernel, rfl, by decide +kernel, by decide +kernel⟩
noncomputable def g_law_pair : List Sl → Out :=
(sSeq (sIf (cCmp eqD (eV 0) (eC (.int 0)))
(sRet (eCall 2 (m_law_fraction 2) (aCons (eBin subD (eV 3) (eBin mulD (eC (.int 5)) (eBin powD (eC (.int 10)) (eC (.int 29))))) (aCons (eBin addD (eV 4) (eC (.int 1))) aNil))))
sNx)
(sSeq (sIf (cCmp eqD (eV 0) (eC (.int 1)))
(sRet (eTup (aCons (eC (.int 0)) (aCons (eC (.int 1)) aNil))))
sNx)
(sSeq (sIf (cCmp eqD (eV 0) (eC (.int 2)))
(sRet (eTup (aCons (eBin subD (eV 1) (eC (.int 20))) (aCons (eC (.int 1)) aNil))))
sNx)
(sRet (eCall 2 (m_law_fraction 2) (aCons (eBin subD (eV 1) (eC (.int 20))) (aCons (eBin addD (eV 2) (eC (.int 1))) aNil)))))))
noncomputable def m_law_pair : List D → Oc D := runB 5 g_law_pair
abbrev s_law_plus : Stmt := top 22
theorem sc_law_plus : FnScope ["one", "two"] ["one", "two"] (defScope s_law_plus) := ⟨rfl, rfl, rfl, by decide +kernel, rfl, by decide +kernel, by decide +kernel⟩
noncomputable def g_law_plus : List Sl → Out :=
(sRet (eCall 2 (m_law_fraction 2) (aCons (eBin addD (eBin mulD (eBin ixD (eV 0) (eC (.int 0))) (eBin ixD (eV 1) (eC (.int 1)))) (eBin mulD (eBin ixD (eV 1) (eC (.int 0))) (eBin ixD (eV 0) (eC (.int 1))))) (aCons (eBin mulD (eBin ixD (eV 0) (eC (.int 1))) (eBin ixD (eV 1) (eC (.int 1)))) aNil))))
noncomputable def m_law_plus : List D → Oc D := runB 2 g_law_plus
abbrev sis_number : Stmt := top 6
theorem scis_number : FnScope ["value"] ["value"] (defScope sis_number) := ⟨rfl, rfl, rfl, by decide +kernel, rfl, by decide +kernel, by decide +kernel⟩
def gis_number : List Sl → Out :=
(sRet (eAnd (eB isiD (aCons (eV 0) (aCons (eC (.ty "int")) aNil))) (eNot (eB isiD (aCons (eV 0) (aCons (eC (.ty "bool")) aNil))))))
def mis_number : List D → Oc D := runB 1 gis_number
abbrev sas_fraction : Stmt := top 9
theorem scas_fraction : FnScope ["value"] ["value"] (defScope sas_fraction) := ⟨rfl, rfl, rfl, by decide +kernel, rfl, by decide +kernel, by decide +kernel⟩
def gas_fraction : List Sl → Out :=
(sSeq (sIf (cV (eCall 1 mis_number (aCons (eV 0) aNil)))
(sRet (eTup (aCons (eV 0) (aCons (eC (.int 1)) aNil))))
sNx)
(sRet (eTup (aCons (eBin ixD (eV 0) (eC (.int 0))) (aCons (eBin ixD (eV 0) (eC (.int 1))) aNil)))))
def mas_fraction : List D → Oc D := runB 1 gas_fraction
abbrev sratio : Stmt := top 8
theorem scratio : FnScope ["top", "bottom", "common"] ["top", "bottom"] (defScope sratio) := ⟨rfl, rfl, rfl, by decide +kernel, rfl, by decide +kernel, by decide +kernel⟩
def gratio : List Sl → Out :=
(sSeq (sIf (cCmp eqD (eV 1) (eC (.int 0)))
(sRaise "ZeroBottom")
sNx)
(sSeq (sAsg (tN 2) (inL [0, 1]) (eB gcdD (aCons (eV 0) (aCons (eV 1) aNil))))
(sSeq (sIf (cCmp ltD (eV 1) (eC (.int 0)))
(sRet (eTup (aCons (eBin fdivD (eBin subD (eC (.int 0)) (eV 0)) (eV 2)) (aCons (eBin fdivD (eBin subD (eC (.int 0)) (eV 1)) (eV 2)) aNil))))
sNx)
(sRet (eTup (aCons (eBin fdivD (eV 0) (eV 2)) (aCons (eBin fdivD (eV 1) (eV 2)) aNil)))))))
def mratio : List D → Oc D := runB 3 gratio
abbrev sover : Stmt := top 13
theorem scover : FnScope ["one", "two", "left", "right"] ["one", "two"] (defScope sover) := ⟨rfl, rfl, rfl, by decide +kernel, rfl, by decide +kernel, by decide +kernel⟩
def gover : List Sl → Out :=
(sSeq (sPar 2 3 (inL [0, 1]) (aCons (eCall 1 mas_fraction (aCons (eV 0) aNil)) (aCons (eCall 1 mas_fraction (aCons (eV 1) aNil)) aNil)))
(sRet (eCall 2 mratio (aCons (eBin mulD (eBin ixD (eV 2) (eC (.int 0))) (eBin ixD (eV 3) (eC (.int 1)))) (aCons (eBin mulD (eBin ixD (eV 2) (eC (.int 1))) (eBin ixD (eV 3) (eC (.int 0)))) aNil)))))
def mover : List D → Oc D := runB 4 gover
abbrev s_law_refused : Stmt := top 26
theorem sc_law_refused : FnScope ["door", "one", "error"] ["door", "one"] (defScope s_law_refused) := ⟨rfl, rfl, rfl, by decide +kernel, rfl, by decide +kernel, by decide +kernel⟩
noncomputable def g_law_refused_b1 : List Sl → Out :=
(sIf (cCmp eqD (eV 0) (eC (.int 0)))
(sDrop (eCall 2 mratio (aCons (eBin ixD (eV 1) (eC (.int 0))) (aCons (eC (.int 0)) aNil))))
(sIf (cCmp eqD (eV 0) (eC (.int 1)))
(sDrop (eCall 2 mover (aCons (eV 1) (aCons (eTup (aCons (eC (.int 0)) (aCons (eC (.int 1)) aNil))) aNil))))
(sDrop (eCall 2 mover (aCons (eV 1) (aCons (eC (.int 0)) aNil))))))
noncomputable def g_law_refused_x2 (a : Addr) (x : D) : List Sl → Out :=
(sRet (eAnd (eIsX 2 ["ZeroBottom"] [] a x) (eAnd (eIsX 2 ["ZeroBottom"] [] a x) (eNot (eIsX 2 [] ["ZeroBottom"] a x)))))
noncomputable def g_law_refused : List Sl → Out :=
(sSeq (sTryA 2 ["ZeroBottom"] [] g_law_refused_b1 g_law_refused_x2)
(sRet (eC (.bl false))))
noncomputable def m_law_refused : List D → Oc D := runB 3 g_law_refused
abbrev s_law_whole : Stmt := top 17
theorem sc_law_whole : FnScope ["value"] ["value"] (defScope s_law_whole) := ⟨rfl, rfl, rfl, by decide +kernel, rfl, by decide +kernel, by decide +kernel⟩
def g_law_whole : List Sl → Out :=
(sRet (eAnd (eB isiD (aCons (eV 0) (aCons (eC (.ty "int")) aNil))) (eNot (eB isiD (aCons (eV 0) (aCons (eC (.ty "bool")) aNil))))))
def m_law_whole : List D → Oc D := runB 1 g_law_whole
abbrev s_law_same : Stmt := top 25
theorem sc_law_same : FnScope ["value", "due", "k"] ["value", "due"] (defScope s_law_same) := ⟨rfl, rfl, rfl, by decide +kernel, rfl, by decide +kernel, by decide +kernel⟩
def g_law_same_b1 (self : List D → Oc D) : List Sl → Out :=
(sIf (cNot (cV (eCall 2 self (aCons (eBin ixD (eV 0) (eV 2)) (aCons (eBin ixD (eV 1) (eV 2)) aNil)))))
(sRet (eC (.bl false)))
sNx)
def g_law_same (self : List D → Oc D) : List Sl → Out :=
(sSeq (sIf (cV (eB isiD (aCons (eV 1) (aCons (eC (.ty "tuple")) aNil))))
(sSeq (sIf (cOr (cNot (cV (eB isiD (aCons (eV 0) (aCons (eC (.ty "tuple")) aNil))))) (cCmp neD (eB lenD (aCons (eV 0) aNil)) (eB lenD (aCons (eV 1) aNil))))
(sRet (eC (.bl false)))
sNx)
(sSeq (sFor (tN 2) (inL [1]) (iR1 (eB lenD (aCons (eV 1) aNil)))
(g_law_same_b1 self))
(sRet (eC (.bl true)))))
sNx)
(sSeq (sIf (cCmp isD (eV 1) (eC .non))
(sRet (eBin isD (eV 0) (eC .non)))
sNx)
(sSeq (sIf (cV (eB isiD (aCons (eV 1) (aCons (eC (.ty "bool")) aNil))))
(sRet (eAnd (eB isiD (aCons (eV 0) (aCons (eC (.ty "bool")) aNil))) (eBin eqD (eV 0) (eV 1))))
sNx)
(sSeq (sIf (cV (eB isiD (aCons (eV 1) (aCons (eC (.ty "str")) aNil))))
(sRet (eAnd (eB isiD (aCons (eV 0) (aCons (eC (.ty "str")) aNil))) (eBin eqD (eV 0) (eV 1))))
sNx)
(sRet (eAnd (eCall 1 m_law_whole (aCons (eV 0) aNil)) (eBin eqD (eV 0) (eV 1))))))))
def m_law_same : Nat → List D → Oc D
  | 0 => fun _ => .un
  | n + 1 => runB 3 (g_law_same (m_law_same n))
abbrev s_law_times : Stmt := top 24
theorem sc_law_times : FnScope ["one", "two"] ["one", "two"] (defScope s_law_times) := ⟨rfl, rfl, rfl, by decide +kernel, rfl, by decide +kernel, by decide +kernel⟩
noncomputable def g_law_times : List Sl → Out :=
(sRet (eCall 2 (m_law_fraction 2) (aCons (eBin mulD (eBin ixD (eV 0) (eC (.int 0))) (eBin ixD (eV 1) (eC (.int 0)))) (aCons (eBin mulD (eBin ixD (eV 0) (eC (.int 1))) (eBin ixD (eV 1) (eC (.int 1)))) aNil))))
noncomputable def m_law_times : List D → Oc D := runB 2 g_law_times
abbrev scompare : Stmt := top 14
theorem sccompare : FnScope ["one", "two", "left", "right", "first", "second"] ["one", "two"] (defScope scompare) := ⟨rfl, rfl, rfl, by decide +kernel, rfl, by decide +kernel, by decide +kernel⟩
def gcompare : List Sl → Out :=
(sSeq (sPar 2 3 (inL [0, 1]) (aCons (eCall 1 mas_fraction (aCons (eV 0) aNil)) (aCons (eCall 1 mas_fraction (aCons (eV 1) aNil)) aNil)))
(sSeq (sPar 4 5 (inL [2, 3]) (aCons (eBin mulD (eBin ixD (eV 2) (eC (.int 0))) (eBin ixD (eV 3) (eC (.int 1)))) (aCons (eBin mulD (eBin ixD (eV 3) (eC (.int 0))) (eBin ixD (eV 2) (eC (.int 1)))) aNil)))
(sSeq (sIf (cCmp ltD (eV 4) (eV 5))
(sRet (eUn negD (eC (.int 1))))
sNx)
(sRet (eIf (cCmp gtD (eV 4) (eV 5)) (eC (.int 1)) (eC (.int 0)))))))
def mcompare : List D → Oc D := runB 6 gcompare
abbrev sis_fraction : Stmt := top 15
theorem scis_fraction : FnScope ["value"] ["value"] (defScope sis_fraction) := ⟨rfl, rfl, rfl, by decide +kernel, rfl, by decide +kernel, by decide +kernel⟩
def gis_fraction : List Sl → Out :=
(sSeq (sIf (cOr (cNot (cV (eB isiD (aCons (eV 0) (aCons (eC (.ty "tuple")) aNil))))) (cCmp neD (eB lenD (aCons (eV 0) aNil)) (eC (.int 2))))
(sRet (eC (.bl false)))
sNx)
(sSeq (sIf (cOr (cNot (cV (eCall 1 mis_number (aCons (eBin ixD (eV 0) (eC (.int 0))) aNil)))) (cNot (cV (eCall 1 mis_number (aCons (eBin ixD (eV 0) (eC (.int 1))) aNil)))))
(sRet (eC (.bl false)))
sNx)
(sRet (eAnd (eBin geD (eBin ixD (eV 0) (eC (.int 1))) (eC (.int 1))) (eBin eqD (eB gcdD (aCons (eBin ixD (eV 0) (eC (.int 0))) (aCons (eBin ixD (eV 0) (eC (.int 1))) aNil))) (eC (.int 1)))))))
def mis_fraction : List D → Oc D := runB 1 gis_fraction
abbrev sminus : Stmt := top 11
theorem scminus : FnScope ["one", "two", "left", "right"] ["one", "two"] (defScope sminus) := ⟨rfl, rfl, rfl, by decide +kernel, rfl, by decide +kernel, by decide +kernel⟩
def gminus : List Sl → Out :=
(sSeq (sPar 2 3 (inL [0, 1]) (aCons (eCall 1 mas_fraction (aCons (eV 0) aNil)) (aCons (eCall 1 mas_fraction (aCons (eV 1) aNil)) aNil)))
(sRet (eCall 2 mratio (aCons (eBin subD (eBin mulD (eBin ixD (eV 2) (eC (.int 0))) (eBin ixD (eV 3) (eC (.int 1)))) (eBin mulD (eBin ixD (eV 3) (eC (.int 0))) (eBin ixD (eV 2) (eC (.int 1))))) (aCons (eBin mulD (eBin ixD (eV 2) (eC (.int 1))) (eBin ixD (eV 3) (eC (.int 1)))) aNil)))))
def mminus : List D → Oc D := runB 4 gminus
abbrev splus : Stmt := top 10
theorem scplus : FnScope ["one", "two", "left", "right"] ["one", "two"] (defScope splus) := ⟨rfl, rfl, rfl, by decide +kernel, rfl, by decide +kernel, by decide +kernel⟩
def gplus : List Sl → Out :=
(sSeq (sPar 2 3 (inL [0, 1]) (aCons (eCall 1 mas_fraction (aCons (eV 0) aNil)) (aCons (eCall 1 mas_fraction (aCons (eV 1) aNil)) aNil)))
(sRet (eCall 2 mratio (aCons (eBin addD (eBin mulD (eBin ixD (eV 2) (eC (.int 0))) (eBin ixD (eV 3) (eC (.int 1)))) (eBin mulD (eBin ixD (eV 3) (eC (.int 0))) (eBin ixD (eV 2) (eC (.int 1))))) (aCons (eBin mulD (eBin ixD (eV 2) (eC (.int 1))) (eBin ixD (eV 3) (eC (.int 1)))) aNil)))))
def mplus : List D → Oc D := runB 4 gplus
abbrev stimes : Stmt := top 12
theorem sctimes : FnScope ["one", "two", "left", "right"] ["one", "two"] (defScope stimes) := ⟨rfl, rfl, rfl, by decide +kernel, rfl, by decide +kernel, by decide +kernel⟩
def gtimes : List Sl → Out :=
(sSeq (sPar 2 3 (inL [0, 1]) (aCons (eCall 1 mas_fraction (aCons (eV 0) aNil)) (aCons (eCall 1 mas_fraction (aCons (eV 1) aNil)) aNil)))
(sRet (eCall 2 mratio (aCons (eBin mulD (eBin ixD (eV 2) (eC (.int 0))) (eBin ixD (eV 3) (eC (.int 0)))) (aCons (eBin mulD (eBin ixD (eV 2) (eC (.int 1))) (eBin ixD (eV 3) (eC (.int 1)))) aNil)))))
def mtimes : List D → Oc D := runB 4 gtimes
abbrev slaw : Stmt := top 28
theorem sclaw : FnScope ["script", "turn", "row", "one", "two", "handed", "k", "first", "second", "sign", "due", "top", "bottom", "door", "bad", "value"] ["script"] (defScope slaw) := ⟨rfl, rfl, rfl, by decide +kernel, rfl, by decide +kernel, by decide +kernel⟩
noncomputable def glaw_b1 : List Sl → Out :=
(sIf (cAnd (cCmp eqD (eBin ixD (eBin ixD (eV 5) (eV 6)) (eC (.int 1))) (eC (.int 1))) (cCmp eqD (eBin ixD (eV 2) (eC (.int 9))) (eC (.int 0))))
(sSet 5 (inL [5, 6]) (eBin ixD (eBin ixD (eV 5) (eV 6)) (eC (.int 0))) (eV 6))
(sIf (cCmp eqD (eBin ixD (eV 2) (eC (.int 9))) (eC (.int 1)))
(sSetN 5 (inL [5, 6]) (nList (aCons (eBin ixD (eV 5) (eV 6)) aNil)) (eV 6))
sNx))
noncomputable def glaw_b2 : List Sl → Out :=
(sIf (cNot (cV (eCall 2 m_law_refused (aCons (eV 13) (aCons (eV 3) aNil)))))
(sRet (eC (.bl false)))
sNx)
noncomputable def glaw_b3 : List Sl → Out :=
(sIf (cCmp isNotD (eCall 1 mis_fraction (aCons (eV 15) aNil)) (eC (.bl false)))
(sRet (eC (.bl false)))
sNx)
noncomputable def glaw_b4 : List Sl → Out :=
(sSeq (sAsg (tN 2) (inL [0, 1]) (eCall 2 m_law_digits (aCons (eCall 2 m_law_cell (aCons (eV 0) (aCons (eV 1) aNil))) (aCons (eNew (nLst (aCons (eC (.int 5)) (aCons (eC (.int 41)) (aCons (eC (.int 30)) (aCons (eBin powD (eC (.int 10)) (eC (.int 30))) (aCons (eBin subD (eBin powD (eC (.int 10)) (eC (.int 30))) (eC (.int 1))) (aCons (eC (.int 5)) (aCons (eC (.int 41)) (aCons (eC (.int 30)) (aCons (eC (.int 3)) (aCons (eC (.int 3)) aNil)))))))))))) aNil))))
(sSeq (sAsg (tN 3) (inL [2]) (eCall 5 m_law_pair (aCons (eBin ixD (eV 2) (eC (.int 0))) (aCons (eBin ixD (eV 2) (eC (.int 1))) (aCons (eBin ixD (eV 2) (eC (.int 2))) (aCons (eBin ixD (eV 2) (eC (.int 3))) (aCons (eBin ixD (eV 2) (eC (.int 4))) aNil)))))))
(sSeq (sAsg (tN 4) (inL [2]) (eCall 5 m_law_pair (aCons (eBin ixD (eV 2) (eC (.int 5))) (aCons (eBin ixD (eV 2) (eC (.int 6))) (aCons (eBin ixD (eV 2) (eC (.int 7))) (aCons (eBin ixD (eV 2) (eC (.int 4))) (aCons (eBin modD (eBin ixD (eV 2) (eC (.int 3))) (eBin subD (eBin powD (eC (.int 10)) (eC (.int 30))) (eC (.int 1)))) aNil)))))))
(sSeq (sIf (cCmp eqD (eBin ixD (eV 2) (eC (.int 8))) (eC (.int 0)))
(sAsg (tN 4) (inL [3]) (eV 3))
sNx)
(sSeq (sNew 5 (inL [3, 4]) (nLst (aCons (eV 3) (aCons (eV 4) aNil))))
(sSeq (sFor (tN 6) (inL []) (iR1 (eC (.int 2)))
glaw_b1)
(sSeq (sAsg (tN 7) (inL [5]) (eBin ixD (eV 5) (eC (.int 0))))
(sSeq (sAsg (tN 8) (inL [5]) (eBin ixD (eV 5) (eC (.int 1))))
(sSeq (sIf (cNot (cV (eCall 2 (m_law_same 2) (aCons (eCall 2 mplus (aCons (eV 7) (aCons (eV 8) aNil))) (aCons (eCall 2 m_law_plus (aCons (eV 3) (aCons (eV 4) aNil))) aNil)))))
(sRet (eC (.bl false)))
sNx)
(sSeq (sIf (cNot (cV (eCall 2 (m_law_same 2) (aCons (eCall 2 mminus (aCons (eV 7) (aCons (eV 8) aNil))) (aCons (eCall 2 m_law_minus (aCons (eV 3) (aCons (eV 4) aNil))) aNil)))))
(sRet (eC (.bl false)))
sNx)
(sSeq (sIf (cNot (cV (eCall 2 (m_law_same 2) (aCons (eCall 2 mtimes (aCons (eV 7) (aCons (eV 8) aNil))) (aCons (eCall 2 m_law_times (aCons (eV 3) (aCons (eV 4) aNil))) aNil)))))
(sRet (eC (.bl false)))
sNx)
(sSeq (sAsg (tN 9) (inL [3, 4]) (eBin subD (eB intD (aCons (eBin gtD (eBin mulD (eBin ixD (eV 3) (eC (.int 0))) (eBin ixD (eV 4) (eC (.int 1)))) (eBin mulD (eBin ixD (eV 4) (eC (.int 0))) (eBin ixD (eV 3) (eC (.int 1))))) aNil)) (eB intD (aCons (eBin ltD (eBin mulD (eBin ixD (eV 3) (eC (.int 0))) (eBin ixD (eV 4) (eC (.int 1)))) (eBin mulD (eBin ixD (eV 4) (eC (.int 0))) (eBin ixD (eV 3) (eC (.int 1))))) aNil))))
(sSeq (sIf (cOr (cNot (cV (eCall 2 (m_law_same 2) (aCons (eCall 2 mcompare (aCons (eV 7) (aCons (eV 8) aNil))) (aCons (eV 9) aNil))))) (cNot (cV (eCall 2 (m_law_same 2) (aCons (eCall 2 mcompare (aCons (eV 8) (aCons (eV 7) aNil))) (aCons (eUn negD (eV 9)) aNil))))))
(sRet (eC (.bl false)))
sNx)
(sSeq (sIf (cCmp neD (eBin ixD (eV 4) (eC (.int 0))) (eC (.int 0)))
(sSeq (sAsg (tN 10) (inL [3, 4]) (eCall 2 (m_law_fraction 2) (aCons (eBin mulD (eBin ixD (eV 3) (eC (.int 0))) (eBin ixD (eV 4) (eC (.int 1)))) (aCons (eBin mulD (eBin ixD (eV 3) (eC (.int 1))) (eBin ixD (eV 4) (eC (.int 0)))) aNil))))
(sIf (cNot (cV (eCall 2 (m_law_same 2) (aCons (eCall 2 mover (aCons (eV 7) (aCons (eV 8) aNil))) (aCons (eV 10) aNil)))))
(sRet (eC (.bl false)))
sNx))
sNx)
(sSeq (sAsg (tN 11) (inL [2]) (eIf (cCmp eqD (eBin ixD (eV 2) (eC (.int 0))) (eC (.int 0))) (eBin subD (eBin ixD (eV 2) (eC (.int 3))) (eBin mulD (eC (.int 5)) (eBin powD (eC (.int 10)) (eC (.int 29))))) (eBin mulD (eBin subD (eBin ixD (eV 2) (eC (.int 1))) (eC (.int 20))) (eBin addD (eBin ixD (eV 2) (eC (.int 2))) (eC (.int 1))))))
(sSeq (sAsg (tN 12) (inL [2]) (eIf (cCmp eqD (eBin ixD (eV 2) (eC (.int 5))) (eC (.int 0))) (eBin addD (eBin ixD (eV 2) (eC (.int 4))) (eC (.int 1))) (eBin mulD (eBin subD (eBin ixD (eV 2) (eC (.int 7))) (eC (.int 15))) (eBin addD (eBin ixD (eV 2) (eC (.int 2))) (eC (.int 1))))))
(sSeq (sIf (cAnd (cCmp neD (eV 12) (eC (.int 0))) (cNot (cV (eCall 2 (m_law_same 2) (aCons (eCall 2 mratio (aCons (eV 11) (aCons (eV 12) aNil))) (aCons (eCall 2 (m_law_fraction 2) (aCons (eV 11) (aCons (eV 12) aNil))) aNil))))))
(sRet (eC (.bl false)))
sNx)
(sSeq (sFor (tN 13) (inL []) (iR1 (eC (.int 3)))
glaw_b2)
(sSeq (sIf (cOr (cCmp isNotD (eCall 1 mis_fraction (aCons (eV 3) aNil)) (eC (.bl true))) (cOr (cCmp isNotD (eCall 1 mis_fraction (aCons (eV 4) aNil)) (eC (.bl true))) (cCmp isNotD (eCall 1 mis_fraction (aCons (eNew (nList (aCons (eV 3) aNil))) aNil)) (eC (.bl false)))))
(sRet (eC (.bl false)))
sNx)
(sSeq (sNew 14 (inL []) (nLst (aCons (eC (.int 5)) (aCons (eC .non) (aCons (eC (.str "1/2")) (aCons (eTup (aCons (eC (.int 1)) aNil)) (aCons (eTup (aCons (eC (.int 1)) (aCons (eC (.int 2)) (aCons (eC (.int 3)) aNil)))) (aCons (eTup (aCons (eC (.int 2)) (aCons (eC (.int 4)) aNil))) (aCons (eTup (aCons (eC (.int 0)) (aCons (eC (.int 2)) aNil))) (aCons (eTup (aCons (eC (.int 1)) (aCons (eC (.int 0)) aNil))) (aCons (eTup (aCons (eC (.int 1)) (aCons (eUn negD (eC (.int 2))) aNil))) (aCons (eTup (aCons (eC (.bl true)) (aCons (eC (.int 2)) aNil))) (aCons (eTup (aCons (eC (.int 1)) (aCons (eC (.bl true)) aNil))) (aCons (eTup (aCons (eC (.str "1")) (aCons (eC (.int 2)) aNil))) (aCons (eTup (aCons (eTup (aCons (eC (.int 1)) (aCons (eC (.int 2)) aNil))) (aCons (eC (.int 3)) aNil))) aNil)))))))))))))))
(sSeq (sNew 14 (inL [3, 14]) (nCat (eV 14) (eNew (nLst (aCons (eTup (aCons (eBin ixD (eV 3) (eC (.int 0))) (aCons (eUn negD (eBin ixD (eV 3) (eC (.int 1)))) aNil))) (aCons (eTup aNil) (aCons (eC (.bl true)) aNil)))))))
(sSeq (sIf (cAnd (cCmp ltD (eB absD (aCons (eBin ixD (eV 3) (eC (.int 0))) aNil)) (eBin powD (eC (.int 10)) (eC (.int 29)))) (cCmp ltD (eBin ixD (eV 3) (eC (.int 1))) (eBin powD (eC (.int 10)) (eC (.int 29)))))
(sApp 14 (inL [3]) (eTup (aCons (eBin mulD (eBin ixD (eV 3) (eC (.int 0))) (eC (.int 2))) (aCons (eBin mulD (eBin ixD (eV 3) (eC (.int 1))) (eC (.int 2))) aNil))))
sNx)
(sFor (tN 15) (inL [14]) (iS (eV 14))
glaw_b3)))))))))))))))))))))))
noncomputable def glaw : List Sl → Out :=
(sSeq (sFor (tN 1) (inL []) (iR1 (eC (.int 4)))
glaw_b4)
(sRet (eC (.bl true))))
noncomputable def mlaw : List D → Oc D := runB 16 glaw
section
variable {P : Program} {w : World} {K : PySem.W.Frag} {mg : Str → Option Value} {base : Heap}
theorem ok_law_cell {f : Addr} {fd : FuncData} (F : Fun K "_law_cell" "_law_cell" s_law_cell f fd) (hx : mg "_law_cell" = some (.ref f)) (hb : Binds K fd ["script", "k"] []) (B : Bt mg)   : FnI P w K mg base 1 "_law_cell" 2 m_law_cell :=
  fni (k := 0) (N := ["script", "k", "seed", "cell"]) F hx hb sc_law_cell (by decide) (fun cdv A outer s H E hr => by
  have tk : Takes (cxOf (L2.CX P w) P w K mg base ["script", "k", "seed", "cell"] "_law_cell" (defScope s_law_cell) f cdv A outer s H E) (fun cls d _ H => E cls d H) := takes_of rfl rfl rfl rfl
  have hpo : PassesOwn (model P w) (cxOf (L2.CX P w) P w K mg base ["script", "k", "seed", "cell"] "_law_cell" (defScope s_law_cell) f cdv A outer s H E).A (cxOf (L2.CX P w) P w K mg base ["script", "k", "seed", "cell"] "_law_cell" (defScope s_law_cell) f cdv A outer s H E).env (cxOf (L2.CX P w) P w K mg base ["script", "k", "seed", "cell"] "_law_cell" (defScope s_law_cell) f cdv A outer s H E).xe := passes_of rfl
  exact (s_cons (psd_if (c_cmp opd_lt (q_v 1) (q_B cd_len B.len bb_len (q_cons (q_v 0) q_nil)))
(s_one (psd_ret (q_ix (q_v 0) (q_v 1))))
s_nil)
(s_cons (psd_asg (inL []) q_int (t_n 2 sc_law_cell.nd))
(s_cons (psd_for (inL [0]) hpo rfl (i_s (q_v 0)) (t_n 3 sc_law_cell.nd)
(s_one (psd_asg (inL [2, 3]) (q_bin opd_mod (q_T cd_int B.int bb_int (q_cons (q_bin opd_add (q_bin opd_mul (q_v 2) q_int) (q_bin opd_mod (q_T cd_int B.int bb_int (q_cons (q_v 3) q_nil)) q_int)) q_nil)) q_int) (t_n 2 sc_law_cell.nd))))
(s_one (psd_ret (q_bin opd_mod (q_T cd_int B.int bb_int (q_cons (q_bin opd_mul (q_bin opd_mul (q_bin opd_add (q_v 2) q_int) (q_bin opd_add (q_v 1) q_int)) q_int) q_nil)) q_int)))))))
theorem ok_law_digits {f : Addr} {fd : FuncData} (F : Fun K "_law_digits" "_law_digits" s_law_digits f fd) (hx : mg "_law_digits" = some (.ref f)) (hb : Binds K fd ["cell", "sizes"] []) (B : Bt mg)   : FnI P w K mg base 1 "_law_digits" 2 m_law_digits :=
  fni (k := 0) (N := ["cell", "sizes", "row", "rest", "bound", "seed", "k", "twice"]) F hx hb sc_law_digits (by decide) (fun cdv A outer s H E hr => by
  have tk : Takes (cxOf (L2.CX P w) P w K mg base ["cell", "sizes", "row", "rest", "bound", "seed", "k", "twice"] "_law_digits" (defScope s_law_digits) f cdv A outer s H E) (fun cls d _ H => E cls d H) := takes_of rfl rfl rfl rfl
  have hpo : PassesOwn (model P w) (cxOf (L2.CX P w) P w K mg base ["cell", "sizes", "row", "rest", "bound", "seed", "k", "twice"] "_law_digits" (defScope s_law_digits) f cdv A outer s H E).A (cxOf (L2.CX P w) P w K mg base ["cell", "sizes", "row", "rest", "bound", "seed", "k", "twice"] "_law_digits" (defScope s_law_digits) f cdv A outer s H E).env (cxOf (L2.CX P w) P w K mg base ["cell", "sizes", "row", "rest", "bound", "seed", "k", "twice"] "_law_digits" (defScope s_law_digits) f cdv A outer s H E).xe := passes_of rfl
  exact (s_cons (psd_new (inL []) (i := 2) (q_lst q_nil) sc_law_digits.nd)
(s_cons (psd_asg (inL [0]) (q_T cd_int B.int bb_int (q_cons (q_v 0) q_nil)) (t_n 3 sc_law_digits.nd))
(s_cons (psd_if (c_cmp opd_ge (q_v 3) (q_bin opd_pow q_int q_int))
(s_cons (psd_asg (inL [3]) (q_bin opd_sub (q_v 3) (q_bin opd_pow q_int q_int)) (t_n 3 sc_law_digits.nd))
(s_cons (psd_for (inL [1]) hpo rfl (i_s (q_v 1)) (t_n 4 sc_law_digits.nd)
(s_cons (psd_app (inL [3, 4]) (i := 2) (q_bin opd_mod (q_T cd_int B.int bb_int (q_cons (q_v 3) q_nil)) (q_v 4)))
(s_one (psd_asg (inL [3, 4]) (q_bin opd_fdiv (q_T cd_int B.int bb_int (q_cons (q_v 3) q_nil)) (q_v 4)) (t_n 3 sc_law_digits.nd)))))
(s_one (psd_ret (q_v 2)))))
s_nil)
(s_cons (psd_asg (inL [3]) (q_bin opd_mod (q_T cd_int B.int bb_int (q_cons (q_v 3) q_nil)) q_int) (t_n 5 sc_law_digits.nd))
(s_cons (psd_for (inL [1]) hpo rfl (i_r1 B.range (q_B cd_len B.len bb_len (q_cons (q_v 1) q_nil))) (t_n 6 sc_law_digits.nd)
(s_cons (psd_asg (inL [5, 6]) (q_bin opd_mod (q_T cd_int B.int bb_int (q_cons (q_bin opd_add (q_bin opd_add (q_bin opd_mul (q_v 5) q_int) (q_bin opd_mul q_int (q_v 6))) q_int) q_nil)) q_int) (t_n 5 sc_law_digits.nd))
(s_cons (psd_asg (inL [5]) (q_bin opd_mod (q_T cd_int B.int bb_int (q_cons (q_bin opd_mul (q_v 5) (q_bin opd_add (q_bin opd_fdiv (q_v 5) q_int) q_int)) q_nil)) q_int) (t_n 7 sc_law_digits.nd))
(s_one (psd_app (inL [1, 6, 7]) (i := 2) (q_bin opd_mod (q_bin opd_fdiv (q_v 7) q_int) (q_ix (q_v 1) (q_v 6))))))))
(s_one (psd_ret (q_v 2)))))))))
theorem ok_law_gcd {f : Addr} {fd : FuncData} (F : Fun K "_law_gcd" "_law_gcd" s_law_gcd f fd) (hx : mg "_law_gcd" = some (.ref f)) (hb : Binds K fd ["a", "b"] []) (B : Bt mg)   : FnI P w K mg base 1 "_law_gcd" 2 m_law_gcd :=
  fni (k := 0) (N := ["a", "b", "one", "two", "rest"]) F hx hb sc_law_gcd (by decide) (fun cdv A outer s H E hr => by
  have tk : Takes (cxOf (L2.CX P w) P w K mg base ["a", "b", "one", "two", "rest"] "_law_gcd" (defScope s_law_gcd) f cdv A outer s H E) (fun cls d _ H => E cls d H) := takes_of rfl rfl rfl rfl
  have hpo : PassesOwn (model P w) (cxOf (L2.CX P w) P w K mg base ["a", "b", "one", "two", "rest"] "_law_gcd" (defScope s_law_gcd) f cdv A outer s H E).A (cxOf (L2.CX P w) P w K mg base ["a", "b", "one", "two", "rest"] "_law_gcd" (defScope s_law_gcd) f cdv A outer s H E).env (cxOf (L2.CX P w) P w K mg base ["a", "b", "one", "two", "rest"] "_law_gcd" (defScope s_law_gcd) f cdv A outer s H E).xe := passes_of rfl
  exact (s_cons (psd_asg (inL [0]) (q_B cd_abs B.abs bb_abs (q_cons (q_T cd_int B.int bb_int (q_cons (q_v 0) q_nil)) q_nil)) (t_n 2 sc_law_gcd.nd))
(s_cons (psd_asg (inL [1]) (q_B cd_abs B.abs bb_abs (q_cons (q_T cd_int B.int bb_int (q_cons (q_v 1) q_nil)) q_nil)) (t_n 3 sc_law_gcd.nd))
(s_cons (psd_while hpo (c_cmp (opd_ne (Room.units hr)) (q_v 3) q_int)
(s_cons (psd_asg (inL [2, 3]) (q_bin opd_mod (q_T cd_int B.int bb_int (q_cons (q_v 2) q_nil)) (q_v 3)) (t_n 4 sc_law_gcd.nd))
(s_cons (psd_asg (inL [3]) (q_v 3) (t_n 2 sc_law_gcd.nd))
(s_one (psd_asg (inL [4]) (q_v 4) (t_n 3 sc_law_gcd.nd))))))
(s_one (psd_ret (q_v 2)))))))
theorem ok_law_fraction {f : Addr} {fd : FuncData} (F : Fun K "_law_fraction" "_law_fraction" s_law_fraction f fd) (hx : mg "_law_fraction" = some (.ref f)) (hb : Binds K fd ["top", "bottom"] []) (B : Bt mg) (G_law_gcd : FnI P w K mg base 1 "_law_gcd" 2 m_law_gcd)  : ∀ n : Nat, FnI P w K mg base (1 + n) "_law_fraction" 2 (m_law_fraction n)
  | 0 => fni0 hx F.kp hb
  | n + 1 => by
    have GS := ok_law_fraction F hx hb B G_law_gcd n
    exact fni (k := 1 + n) (N := ["top", "bottom", "common"]) F hx hb sc_law_fraction (by decide) (fun cdv A outer s H E hr => by
  have tk : Takes (cxOf (L2.CX P w) P w K mg base ["top", "bottom", "common"] "_law_fraction" (defScope s_law_fraction) f cdv A outer s H E) (fun cls d _ H => E cls d H) := takes_of rfl rfl rfl rfl
  have hpo : PassesOwn (model P w) (cxOf (L2.CX P w) P w K mg base ["top", "bottom", "common"] "_law_fraction" (defScope s_law_fraction) f cdv A outer s H E).A (cxOf (L2.CX P w) P w K mg base ["top", "bottom", "common"] "_law_fraction" (defScope s_law_fraction) f cdv A outer s H E).env (cxOf (L2.CX P w) P w K mg base ["top", "bottom", "common"] "_law_fraction" (defScope s_law_fraction) f cdv A outer s H E).xe := passes_of rfl
  exact (s_cons (psd_if (c_cmp opd_lt (q_v 1) q_int)
(s_one (psd_ret (q_call GS (hr.mono (by omega)) tk (q_cons (q_neg (q_v 0)) (q_cons (q_neg (q_v 1)) q_nil)))))
s_nil)
(s_cons (psd_asg (inL [0, 1]) (q_call G_law_gcd (hr.mono (by omega)) tk (q_cons (q_v 0) (q_cons (q_v 1) q_nil))) (t_n 2 sc_law_fraction.nd))
(s_one (psd_ret (q_tup (q_cons (q_bin opd_fdiv (q_v 0) (q_v 2)) (q_cons (q_bin opd_fdiv (q_v 1) (q_v 2)) q_nil))))))))
theorem ok_law_minus {f : Addr} {fd : FuncData} (F : Fun K "_law_minus" "_law_minus" s_law_minus f fd) (hx : mg "_law_minus" = some (.ref f)) (hb : Binds K fd ["one", "two"] []) (B : Bt mg) (G_law_fraction : FnI P w K mg base 3 "_law_fraction" 2 (m_law_fraction 2))  : FnI P w K mg base 4 "_law_minus" 2 m_law_minus :=
  fni (k := 3) (N := ["one", "two"]) F hx hb sc_law_minus (by decide) (fun cdv A outer s H E hr => by
  have tk : Takes (cxOf (L2.CX P w) P w K mg base ["one", "two"] "_law_minus" (defScope s_law_minus) f cdv A outer s H E) (fun cls d _ H => E cls d H) := takes_of rfl rfl rfl rfl
  have hpo : PassesOwn (model P w) (cxOf (L2.CX P w) P w K mg base ["one", "two"] "_law_minus" (defScope s_law_minus) f cdv A outer s H E).A (cxOf (L2.CX P w) P w K mg base ["one", "two"] "_law_minus" (defScope s_law_minus) f cdv A outer s H E).env (cxOf (L2.CX P w) P w K mg base ["one", "two"] "_law_minus" (defScope s_law_minus) f cdv A outer s H E).xe := passes_of rfl
  exact (s_one (psd_ret (q_call G_law_fraction (hr.mono (by decide)) tk (q_cons (q_bin opd_sub (q_bin opd_mul (q_ix (q_v 0) q_int) (q_ix (q_v 1) q_int)) (q_bin opd_mul (q_ix (q_v 1) q_int) (q_ix (q_v 0) q_int))) (q_cons (q_bin opd_mul (q_ix (q_v 0) q_int) (q_ix (q_v 1) q_int)) q_nil))))))
theorem ok_law_pair {f : Addr} {fd : FuncData} (F : Fun K "_law_pair" "_law_pair" s_law_pair f fd) (hx : mg "_law_pair" = some (.ref f)) (hb : Binds K fd ["pick", "small", "low", "great", "deep"] []) (B : Bt mg) (G_law_fraction : FnI P w K mg base 3 "_law_fraction" 2 (m_law_fraction 2))  : FnI P w K mg base 4 "_law_pair" 5 m_law_pair :=
  fni (k := 3) (N := ["pick", "small", "low", "great", "deep"]) F hx hb sc_law_pair (by decide) (fun cdv A outer s H E hr => by
  have tk : Takes (cxOf (L2.CX P w) P w K mg base ["pick", "small", "low", "great", "deep"] "_law_pair" (defScope s_law_pair) f cdv A outer s H E) (fun cls d _ H => E cls d H) := takes_of rfl rfl rfl rfl
  have hpo : PassesOwn (model P w) (cxOf (L2.CX P w) P w K mg base ["pick", "small", "low", "great", "deep"] "_law_pair" (defScope s_law_pair) f cdv A outer s H E).A (cxOf (L2.CX P w) P w K mg base ["pick", "small", "low", "great", "deep"] "_law_pair" (defScope s_law_pair) f cdv A outer s H E).env (cxOf (L2.CX P w) P w K mg base ["pick", "small", "low", "great", "deep"] "_law_pair" (defScope s_law_pair) f cdv A outer s H E).xe := passes_of rfl
  exact (s_cons (psd_if (c_cmp (opd_eq (Room.units hr)) (q_v 0) q_int)
(s_one (psd_ret (q_call G_law_fraction (hr.mono (by decide)) tk (q_cons (q_bin opd_sub (q_v 3) (q_bin opd_mul q_int (q_bin opd_pow q_int q_int))) (q_cons (q_bin opd_add (q_v 4) q_int) q_nil)))))
s_nil)
(s_cons (psd_if (c_cmp (opd_eq (Room.units hr)) (q_v 0) q_int)
(s_one (psd_ret (q_tup (q_cons q_int (q_cons q_int q_nil)))))
s_nil)
(s_cons (psd_if (c_cmp (opd_eq (Room.units hr)) (q_v 0) q_int)
(s_one (psd_ret (q_tup (q_cons (q_bin opd_sub (q_v 1) q_int) (q_cons q_int q_nil)))))
s_nil)
(s_one (psd_ret (q_call G_law_fraction (hr.mono (by decide)) tk (q_cons (q_bin opd_sub (q_v 1) q_int) (q_cons (q_bin opd_add (q_v 2) q_int) q_nil)))))))))
theorem ok_law_plus {f : Addr} {fd : FuncData} (F : Fun K "_law_plus" "_law_plus" s_law_plus f fd) (hx : mg "_law_plus" = some (.ref f)) (hb : Binds K fd ["one", "two"] []) (B : Bt mg) (G_law_fraction : FnI P w K mg base 3 "_law_fraction" 2 (m_law_fraction 2))  : FnI P w K mg base 4 "_law_plus" 2 m_law_plus :=
  fni (k := 3) (N := ["one", "two"]) F hx hb sc_law_plus (by decide) (fun cdv A outer s H E hr => by
  have tk : Takes (cxOf (L2.CX P w) P w K mg base ["one", "two"] "_law_plus" (defScope s_law_plus) f cdv A outer s H E) (fun cls d _ H => E cls d H) := takes_of rfl rfl rfl rfl
  have hpo : PassesOwn (model P w) (cxOf (L2.CX P w) P w K mg base ["one", "two"] "_law_plus" (defScope s_law_plus) f cdv A outer s H E).A (cxOf (L2.CX P w) P w K mg base ["one", "two"] "_law_plus" (defScope s_law_plus) f cdv A outer s H E).env (cxOf (L2.CX P w) P w K mg base ["one", "two"] "_law_plus" (defScope s_law_plus) f cdv A outer s H E).xe := passes_of rfl
  exact (s_one (psd_ret (q_call G_law_fraction (hr.mono (by decide)) tk (q_cons (q_bin opd_add (q_bin opd_mul (q_ix (q_v 0) q_int) (q_ix (q_v 1) q_int)) (q_bin opd_mul (q_ix (q_v 1) q_int) (q_ix (q_v 0) q_int))) (q_cons (q_bin opd_mul (q_ix (q_v 0) q_int) (q_ix (q_v 1) q_int)) q_nil))))))
theorem okis_number {f : Addr} {fd : FuncData} (F : Fun K "is_number" "is_number" sis_number f fd) (hx : mg "is_number" = some (.ref f)) (hb : Binds K fd ["value"] []) (B : Bt mg)   : FnI P w K mg base 1 "is_number" 1 mis_number :=
  fni (k := 0) (N := ["value"]) F hx hb scis_number (by decide) (fun cdv A outer s H E hr => by
  have tk : Takes (cxOf (L2.CX P w) P w K mg base ["value"] "is_number" (defScope sis_number) f cdv A outer s H E) (fun cls d _ H => E cls d H) := takes_of rfl rfl rfl rfl
  have hpo : PassesOwn (model P w) (cxOf (L2.CX P w) P w K mg base ["value"] "is_number" (defScope sis_number) f cdv A outer s H E).A (cxOf (L2.CX P w) P w K mg base ["value"] "is_number" (defScope sis_number) f cdv A outer s H E).env (cxOf (L2.CX P w) P w K mg base ["value"] "is_number" (defScope sis_number) f cdv A outer s H E).xe := passes_of rfl
  exact (s_one (psd_ret (q_and (q_B cd_isi B.isinstance bb_isinstance (q_cons (q_v 0) (q_cons (q_ty B.int bb_int) q_nil))) (q_one (q_not (q_B cd_isi B.isinstance bb_isinstance (q_cons (q_v 0) (q_cons (q_ty B.bool bb_bool) q_nil)))))))))
theorem okas_fraction {f : Addr} {fd : FuncData} (F : Fun K "as_fraction" "as_fraction" sas_fraction f fd) (hx : mg "as_fraction" = some (.ref f)) (hb : Binds K fd ["value"] []) (B : Bt mg) (Gis_number : FnI P w K mg base 1 "is_number" 1 mis_number)  : FnI P w K mg base 2 "as_fraction" 1 mas_fraction :=
  fni (k := 1) (N := ["value"]) F hx hb scas_fraction (by decide) (fun cdv A outer s H E hr => by
  have tk : Takes (cxOf (L2.CX P w) P w K mg base ["value"] "as_fraction" (defScope sas_fraction) f cdv A outer s H E) (fun cls d _ H => E cls d H) := takes_of rfl rfl rfl rfl
  have hpo : PassesOwn (model P w) (cxOf (L2.CX P w) P w K mg base ["value"] "as_fraction" (defScope sas_fraction) f cdv A outer s H E).A (cxOf (L2.CX P w) P w K mg base ["value"] "as_fraction" (defScope sas_fraction) f cdv A outer s H E).env (cxOf (L2.CX P w) P w K mg base ["value"] "as_fraction" (defScope sas_fraction) f cdv A outer s H E).xe := passes_of rfl
  exact (s_cons (psd_if (c_v (q_call Gis_number (hr.mono (by decide)) tk (q_cons (q_v 0) q_nil)))
(s_one (psd_ret (q_tup (q_cons (q_v 0) (q_cons q_int q_nil)))))
s_nil)
(s_one (psd_ret (q_tup (q_cons (q_ix (q_v 0) q_int) (q_cons (q_ix (q_v 0) q_int) q_nil)))))))
theorem okratio {f : Addr} {fd : FuncData} (F : Fun K "ratio" "ratio" sratio f fd) (hx : mg "ratio" = some (.ref f)) (hb : Binds K fd ["top", "bottom"] []) (B : Bt mg)  (EC_ZeroBottom : ErC K mg "ZeroBottom") : FnI P w K mg base 1 "ratio" 2 mratio :=
  fni (k := 0) (N := ["top", "bottom", "common"]) F hx hb scratio (by decide) (fun cdv A outer s H E hr => by
  have tk : Takes (cxOf (L2.CX P w) P w K mg base ["top", "bottom", "common"] "ratio" (defScope sratio) f cdv A outer s H E) (fun cls d _ H => E cls d H) := takes_of rfl rfl rfl rfl
  have hpo : PassesOwn (model P w) (cxOf (L2.CX P w) P w K mg base ["top", "bottom", "common"] "ratio" (defScope sratio) f cdv A outer s H E).A (cxOf (L2.CX P w) P w K mg base ["top", "bottom", "common"] "ratio" (defScope sratio) f cdv A outer s H E).env (cxOf (L2.CX P w) P w K mg base ["top", "bottom", "common"] "ratio" (defScope sratio) f cdv A outer s H E).xe := passes_of rfl
  exact (s_cons (psd_if (c_cmp (opd_eq (Room.units hr)) (q_v 1) q_int)
(s_one (s_raise EC_ZeroBottom tk))
s_nil)
(s_cons (psd_asg (inL [0, 1]) (q_Bf cd_gcd B.gcd (q_cons (q_v 0) (q_cons (q_v 1) q_nil))) (t_n 2 scratio.nd))
(s_cons (psd_if (c_cmp opd_lt (q_v 1) q_int)
(s_one (psd_ret (q_tup (q_cons (q_bin opd_fdiv (q_bin opd_sub q_int (q_v 0)) (q_v 2)) (q_cons (q_bin opd_fdiv (q_bin opd_sub q_int (q_v 1)) (q_v 2)) q_nil)))))
s_nil)
(s_one (psd_ret (q_tup (q_cons (q_bin opd_fdiv (q_v 0) (q_v 2)) (q_cons (q_bin opd_fdiv (q_v 1) (q_v 2)) q_nil)))))))))
theorem okover {f : Addr} {fd : FuncData} (F : Fun K "over" "over" sover f fd) (hx : mg "over" = some (.ref f)) (hb : Binds K fd ["one", "two"] []) (B : Bt mg) (Gas_fraction : FnI P w K mg base 2 "as_fraction" 1 mas_fraction) (Gratio : FnI P w K mg base 1 "ratio" 2 mratio)  : FnI P w K mg base 3 "over" 2 mover :=
  fni (k := 2) (N := ["one", "two", "left", "right"]) F hx hb scover (by decide) (fun cdv A outer s H E hr => by
  have tk : Takes (cxOf (L2.CX P w) P w K mg base ["one", "two", "left", "right"] "over" (defScope sover) f cdv A outer s H E) (fun cls d _ H => E cls d H) := takes_of rfl rfl rfl rfl
  have hpo : PassesOwn (model P w) (cxOf (L2.CX P w) P w K mg base ["one", "two", "left", "right"] "over" (defScope sover) f cdv A outer s H E).A (cxOf (L2.CX P w) P w K mg base ["one", "two", "left", "right"] "over" (defScope sover) f cdv A outer s H E).env (cxOf (L2.CX P w) P w K mg base ["one", "two", "left", "right"] "over" (defScope sover) f cdv A outer s H E).xe := passes_of rfl
  exact (s_cons (s_par (inL [0, 1]) (i := 2) (j := 3) rfl scover.nd (q_cons (q_call Gas_fraction (hr.mono (by decide)) tk (q_cons (q_v 0) q_nil)) (q_cons (q_call Gas_fraction (hr.mono (by decide)) tk (q_cons (q_v 1) q_nil)) q_nil)))
(s_one (psd_ret (q_call Gratio (hr.mono (by decide)) tk (q_cons (q_bin opd_mul (q_ix (q_v 2) q_int) (q_ix (q_v 3) q_int)) (q_cons (q_bin opd_mul (q_ix (q_v 2) q_int) (q_ix (q_v 3) q_int)) q_nil)))))))
theorem ok_law_refused {f : Addr} {fd : FuncData} (F : Fun K "_law_refused" "_law_refused" s_law_refused f fd) (hx : mg "_law_refused" = some (.ref f)) (hb : Binds K fd ["door", "one"] []) (B : Bt mg) (Gover : FnI P w K mg base 3 "over" 2 mover) (Gratio : FnI P w K mg base 1 "ratio" 2 mratio) (IB_ValueError : IsTb K mg "ValueError" "ValueError" ["ZeroBottom"] []) (IC_BadCorners : IsTo K mg "BadCorners" [] ["ZeroBottom"]) (IC_RaceError : IsTo K mg "RaceError" ["ZeroBottom"] []) (TC_ZeroBottom : TryC K mg "ZeroBottom" ["ZeroBottom"] []) : FnI P w K mg base 4 "_law_refused" 2 m_law_refused :=
  fni (k := 3) (N := ["door", "one", "error"]) F hx hb sc_law_refused (by decide) (fun cdv A outer s H E hr => by
  have tk : Takes (cxOf (L2.CX P w) P w K mg base ["door", "one", "error"] "_law_refused" (defScope s_law_refused) f cdv A outer s H E) (fun cls d _ H => E cls d H) := takes_of rfl rfl rfl rfl
  have hpo : PassesOwn (model P w) (cxOf (L2.CX P w) P w K mg base ["door", "one", "error"] "_law_refused" (defScope s_law_refused) f cdv A outer s H E).A (cxOf (L2.CX P w) P w K mg base ["door", "one", "error"] "_law_refused" (defScope s_law_refused) f cdv A outer s H E).env (cxOf (L2.CX P w) P w K mg base ["door", "one", "error"] "_law_refused" (defScope s_law_refused) f cdv A outer s H E).xe := passes_of rfl
  exact (s_cons (s_tryA 2 TC_ZeroBottom tk rfl rfl sc_law_refused.nd (fun W pn xe tk hpo => (s_one (psd_if (c_cmp (opd_eq (Room.units hr)) (q_v 0) q_int)
(s_one (psd_drop (q_call Gratio (hr.mono (by decide)) tk (q_cons (q_ix (q_v 1) q_int) (q_cons q_int q_nil)))))
(s_one (psd_if (c_cmp (opd_eq (Room.units hr)) (q_v 0) q_int)
(s_one (psd_drop (q_call Gover (hr.mono (by decide)) tk (q_cons (q_v 1) (q_cons (q_tup (q_cons q_int (q_cons q_int q_nil))) q_nil)))))
(s_one (psd_drop (q_call Gover (hr.mono (by decide)) tk (q_cons (q_v 1) (q_cons q_int q_nil)))))))))) (fun a oe cls d pn x hx => (s_one (psd_ret (q_and (q_isXc 2 hx IC_RaceError B.isinstance) (q_and (q_isXb 2 hx IB_ValueError B.isinstance bb_ValueError) (q_one (q_not (q_isXc 2 hx IC_BadCorners B.isinstance)))))))))
(s_one (psd_ret q_bl))))
theorem ok_law_whole {f : Addr} {fd : FuncData} (F : Fun K "_law_whole" "_law_whole" s_law_whole f fd) (hx : mg "_law_whole" = some (.ref f)) (hb : Binds K fd ["value"] []) (B : Bt mg)   : FnI P w K mg base 1 "_law_whole" 1 m_law_whole :=
  fni (k := 0) (N := ["value"]) F hx hb sc_law_whole (by decide) (fun cdv A outer s H E hr => by
  have tk : Takes (cxOf (L2.CX P w) P w K mg base ["value"] "_law_whole" (defScope s_law_whole) f cdv A outer s H E) (fun cls d _ H => E cls d H) := takes_of rfl rfl rfl rfl
  have hpo : PassesOwn (model P w) (cxOf (L2.CX P w) P w K mg base ["value"] "_law_whole" (defScope s_law_whole) f cdv A outer s H E).A (cxOf (L2.CX P w) P w K mg base ["value"] "_law_whole" (defScope s_law_whole) f cdv A outer s H E).env (cxOf (L2.CX P w) P w K mg base ["value"] "_law_whole" (defScope s_law_whole) f cdv A outer s H E).xe := passes_of rfl
  exact (s_one (psd_ret (q_and (q_B cd_isi B.isinstance bb_isinstance (q_cons (q_v 0) (q_cons (q_ty B.int bb_int) q_nil))) (q_one (q_not (q_B cd_isi B.isinstance bb_isinstance (q_cons (q_v 0) (q_cons (q_ty B.bool bb_bool) q_nil)))))))))
theorem ok_law_same {f : Addr} {fd : FuncData} (F : Fun K "_law_same" "_law_same" s_law_same f fd) (hx : mg "_law_same" = some (.ref f)) (hb : Binds K fd ["value", "due"] []) (B : Bt mg) (G_law_whole : FnI P w K mg base 1 "_law_whole" 1 m_law_whole)  : ∀ n : Nat, FnI P w K mg base (1 + n) "_law_same" 2 (m_law_same n)
  | 0 => fni0 hx F.kp hb
  | n + 1 => by
    have GS := ok_law_same F hx hb B G_law_whole n
    exact fni (k := 1 + n) (N := ["value", "due", "k"]) F hx hb sc_law_same (by decide) (fun cdv A outer s H E hr => by
  have tk : Takes (cxOf (L2.CX P w) P w K mg base ["value", "due", "k"] "_law_same" (defScope s_law_same) f cdv A outer s H E) (fun cls d _ H => E cls d H) := takes_of rfl rfl rfl rfl
  have hpo : PassesOwn (model P w) (cxOf (L2.CX P w) P w K mg base ["value", "due", "k"] "_law_same" (defScope s_law_same) f cdv A outer s H E).A (cxOf (L2.CX P w) P w K mg base ["value", "due", "k"] "_law_same" (defScope s_law_same) f cdv A outer s H E).env (cxOf (L2.CX P w) P w K mg base ["value", "due", "k"] "_law_same" (defScope s_law_same) f cdv A outer s H E).xe := passes_of rfl
  exact (s_cons (psd_if (c_v (q_B cd_isi B.isinstance bb_isinstance (q_cons (q_v 1) (q_cons (q_ty B.tuple bb_tuple) q_nil))))
(s_cons (psd_if (c_w (w_or (c_not (c_v (q_B cd_isi B.isinstance bb_isinstance (q_cons (q_v 0) (q_cons (q_ty B.tuple bb_tuple) q_nil))))) (w_or1 (c_cmp (opd_ne (Room.units hr)) (q_B cd_len B.len bb_len (q_cons (q_v 0) q_nil)) (q_B cd_len B.len bb_len (q_cons (q_v 1) q_nil))))))
(s_one (psd_ret q_bl))
s_nil)
(s_cons (psd_for (inL [1]) hpo rfl (i_r1 B.range (q_B cd_len B.len bb_len (q_cons (q_v 1) q_nil))) (t_n 2 sc_law_same.nd)
(s_one (psd_if (c_not (c_v (q_call GS (hr.mono (by omega)) tk (q_cons (q_ix (q_v 0) (q_v 2)) (q_cons (q_ix (q_v 1) (q_v 2)) q_nil)))))
(s_one (psd_ret q_bl))
s_nil)))
(s_one (psd_ret q_bl))))
s_nil)
(s_cons (psd_if (c_cmp opd_is (q_v 1) q_non)
(s_one (psd_ret (q_cmp opd_is (q_v 0) q_non)))
s_nil)
(s_cons (psd_if (c_v (q_B cd_isi B.isinstance bb_isinstance (q_cons (q_v 1) (q_cons (q_ty B.bool bb_bool) q_nil))))
(s_one (psd_ret (q_and (q_B cd_isi B.isinstance bb_isinstance (q_cons (q_v 0) (q_cons (q_ty B.bool bb_bool) q_nil))) (q_one (q_cmp (opd_eq (Room.units hr)) (q_v 0) (q_v 1))))))
s_nil)
(s_cons (psd_if (c_v (q_B cd_isi B.isinstance bb_isinstance (q_cons (q_v 1) (q_cons (q_ty B.str bb_str) q_nil))))
(s_one (psd_ret (q_and (q_B cd_isi B.isinstance bb_isinstance (q_cons (q_v 0) (q_cons (q_ty B.str bb_str) q_nil))) (q_one (q_cmp (opd_eq (Room.units hr)) (q_v 0) (q_v 1))))))
s_nil)
(s_one (psd_ret (q_and (q_call G_law_whole (hr.mono (by omega)) tk (q_cons (q_v 0) q_nil)) (q_one (q_cmp (opd_eq (Room.units hr)) (q_v 0) (q_v 1)))))))))))
theorem ok_law_times {f : Addr} {fd : FuncData} (F : Fun K "_law_times" "_law_times" s_law_times f fd) (hx : mg "_law_times" = some (.ref f)) (hb : Binds K fd ["one", "two"] []) (B : Bt mg) (G_law_fraction : FnI P w K mg base 3 "_law_fraction" 2 (m_law_fraction 2))  : FnI P w K mg base 4 "_law_times" 2 m_law_times :=
  fni (k := 3) (N := ["one", "two"]) F hx hb sc_law_times (by decide) (fun cdv A outer s H E hr => by
  have tk : Takes (cxOf (L2.CX P w) P w K mg base ["one", "two"] "_law_times" (defScope s_law_times) f cdv A outer s H E) (fun cls d _ H => E cls d H) := takes_of rfl rfl rfl rfl
  have hpo : PassesOwn (model P w) (cxOf (L2.CX P w) P w K mg base ["one", "two"] "_law_times" (defScope s_law_times) f cdv A outer s H E).A (cxOf (L2.CX P w) P w K mg base ["one", "two"] "_law_times" (defScope s_law_times) f cdv A outer s H E).env (cxOf (L2.CX P w) P w K mg base ["one", "two"] "_law_times" (defScope s_law_times) f cdv A outer s H E).xe := passes_of rfl
  exact (s_one (psd_ret (q_call G_law_fraction (hr.mono (by decide)) tk (q_cons (q_bin opd_mul (q_ix (q_v 0) q_int) (q_ix (q_v 1) q_int)) (q_cons (q_bin opd_mul (q_ix (q_v 0) q_int) (q_ix (q_v 1) q_int)) q_nil))))))
theorem okcompare {f : Addr} {fd : FuncData} (F : Fun K "compare" "compare" scompare f fd) (hx : mg "compare" = some (.ref f)) (hb : Binds K fd ["one", "two"] []) (B : Bt mg) (Gas_fraction : FnI P w K mg base 2 "as_fraction" 1 mas_fraction)  : FnI P w K mg base 3 "compare" 2 mcompare :=
  fni (k := 2) (N := ["one", "two", "left", "right", "first", "second"]) F hx hb sccompare (by decide) (fun cdv A outer s H E hr => by
  have tk : Takes (cxOf (L2.CX P w) P w K mg base ["one", "two", "left", "right", "first", "second"] "compare" (defScope scompare) f cdv A outer s H E) (fun cls d _ H => E cls d H) := takes_of rfl rfl rfl rfl
  have hpo : PassesOwn (model P w) (cxOf (L2.CX P w) P w K mg base ["one", "two", "left", "right", "first", "second"] "compare" (defScope scompare) f cdv A outer s H E).A (cxOf (L2.CX P w) P w K mg base ["one", "two", "left", "right", "first", "second"] "compare" (defScope scompare) f cdv A outer s H E).env (cxOf (L2.CX P w) P w K mg base ["one", "two", "left", "right", "first", "second"] "compare" (defScope scompare) f cdv A outer s H E).xe := passes_of rfl
  exact (s_cons (s_par (inL [0, 1]) (i := 2) (j := 3) rfl sccompare.nd (q_cons (q_call Gas_fraction (hr.mono (by decide)) tk (q_cons (q_v 0) q_nil)) (q_cons (q_call Gas_fraction (hr.mono (by decide)) tk (q_cons (q_v 1) q_nil)) q_nil)))
(s_cons (s_par (inL [2, 3]) (i := 4) (j := 5) rfl sccompare.nd (q_cons (q_bin opd_mul (q_ix (q_v 2) q_int) (q_ix (q_v 3) q_int)) (q_cons (q_bin opd_mul (q_ix (q_v 3) q_int) (q_ix (q_v 2) q_int)) q_nil)))
(s_cons (psd_if (c_cmp opd_lt (q_v 4) (q_v 5))
(s_one (psd_ret (q_neg q_int)))
s_nil)
(s_one (psd_ret (q_if (c_cmp opd_gt (q_v 4) (q_v 5)) q_int q_int)))))))
theorem okis_fraction {f : Addr} {fd : FuncData} (F : Fun K "is_fraction" "is_fraction" sis_fraction f fd) (hx : mg "is_fraction" = some (.ref f)) (hb : Binds K fd ["value"] []) (B : Bt mg) (Gis_number : FnI P w K mg base 1 "is_number" 1 mis_number)  : FnI P w K mg base 2 "is_fraction" 1 mis_fraction :=
  fni (k := 1) (N := ["value"]) F hx hb scis_fraction (by decide) (fun cdv A outer s H E hr => by
  have tk : Takes (cxOf (L2.CX P w) P w K mg base ["value"] "is_fraction" (defScope sis_fraction) f cdv A outer s H E) (fun cls d _ H => E cls d H) := takes_of rfl rfl rfl rfl
  have hpo : PassesOwn (model P w) (cxOf (L2.CX P w) P w K mg base ["value"] "is_fraction" (defScope sis_fraction) f cdv A outer s H E).A (cxOf (L2.CX P w) P w K mg base ["value"] "is_fraction" (defScope sis_fraction) f cdv A outer s H E).env (cxOf (L2.CX P w) P w K mg base ["value"] "is_fraction" (defScope sis_fraction) f cdv A outer s H E).xe := passes_of rfl
  exact (s_cons (psd_if (c_w (w_or (c_not (c_v (q_B cd_isi B.isinstance bb_isinstance (q_cons (q_v 0) (q_cons (q_ty B.tuple bb_tuple) q_nil))))) (w_or1 (c_cmp (opd_ne (Room.units hr)) (q_B cd_len B.len bb_len (q_cons (q_v 0) q_nil)) q_int))))
(s_one (psd_ret q_bl))
s_nil)
(s_cons (psd_if (c_w (w_or (c_not (c_v (q_call Gis_number (hr.mono (by decide)) tk (q_cons (q_ix (q_v 0) q_int) q_nil)))) (w_or1 (c_not (c_v (q_call Gis_number (hr.mono (by decide)) tk (q_cons (q_ix (q_v 0) q_int) q_nil)))))))
(s_one (psd_ret q_bl))
s_nil)
(s_one (psd_ret (q_and (q_cmp opd_ge (q_ix (q_v 0) q_int) q_int) (q_one (q_cmp (opd_eq (Room.units hr)) (q_Bf cd_gcd B.gcd (q_cons (q_ix (q_v 0) q_int) (q_cons (q_ix (q_v 0) q_int) q_nil))) q_int))))))))
theorem okminus {f : Addr} {fd : FuncData} (F : Fun K "minus" "minus" sminus f fd) (hx : mg "minus" = some (.ref f)) (hb : Binds K fd ["one", "two"] []) (B : Bt mg) (Gas_fraction : FnI P w K mg base 2 "as_fraction" 1 mas_fraction) (Gratio : FnI P w K mg base 1 "ratio" 2 mratio)  : FnI P w K mg base 3 "minus" 2 mminus :=
  fni (k := 2) (N := ["one", "two", "left", "right"]) F hx hb scminus (by decide) (fun cdv A outer s H E hr => by
  have tk : Takes (cxOf (L2.CX P w) P w K mg base ["one", "two", "left", "right"] "minus" (defScope sminus) f cdv A outer s H E) (fun cls d _ H => E cls d H) := takes_of rfl rfl rfl rfl
  have hpo : PassesOwn (model P w) (cxOf (L2.CX P w) P w K mg base ["one", "two", "left", "right"] "minus" (defScope sminus) f cdv A outer s H E).A (cxOf (L2.CX P w) P w K mg base ["one", "two", "left", "right"] "minus" (defScope sminus) f cdv A outer s H E).env (cxOf (L2.CX P w) P w K mg base ["one", "two", "left", "right"] "minus" (defScope sminus) f cdv A outer s H E).xe := passes_of rfl
  exact (s_cons (s_par (inL [0, 1]) (i := 2) (j := 3) rfl scminus.nd (q_cons (q_call Gas_fraction (hr.mono (by decide)) tk (q_cons (q_v 0) q_nil)) (q_cons (q_call Gas_fraction (hr.mono (by decide)) tk (q_cons (q_v 1) q_nil)) q_nil)))
(s_one (psd_ret (q_call Gratio (hr.mono (by decide)) tk (q_cons (q_bin opd_sub (q_bin opd_mul (q_ix (q_v 2) q_int) (q_ix (q_v 3) q_int)) (q_bin opd_mul (q_ix (q_v 3) q_int) (q_ix (q_v 2) q_int))) (q_cons (q_bin opd_mul (q_ix (q_v 2) q_int) (q_ix (q_v 3) q_int)) q_nil)))))))
theorem okplus {f : Addr} {fd : FuncData} (F : Fun K "plus" "plus" splus f fd) (hx : mg "plus" = some (.ref f)) (hb : Binds K fd ["one", "two"] []) (B : Bt mg) (Gas_fraction : FnI P w K mg base 2 "as_fraction" 1 mas_fraction) (Gratio : FnI P w K mg base 1 "ratio" 2 mratio)  : FnI P w K mg base 3 "plus" 2 mplus :=
  fni (k := 2) (N := ["one", "two", "left", "right"]) F hx hb scplus (by decide) (fun cdv A outer s H E hr => by
  have tk : Takes (cxOf (L2.CX P w) P w K mg base ["one", "two", "left", "right"] "plus" (defScope splus) f cdv A outer s H E) (fun cls d _ H => E cls d H) := takes_of rfl rfl rfl rfl
  have hpo : PassesOwn (model P w) (cxOf (L2.CX P w) P w K mg base ["one", "two", "left", "right"] "plus" (defScope splus) f cdv A outer s H E).A (cxOf (L2.CX P w) P w K mg base ["one", "two", "left", "right"] "plus" (defScope splus) f cdv A outer s H E).env (cxOf (L2.CX P w) P w K mg base ["one", "two", "left", "right"] "plus" (defScope splus) f cdv A outer s H E).xe := passes_of rfl
  exact (s_cons (s_par (inL [0, 1]) (i := 2) (j := 3) rfl scplus.nd (q_cons (q_call Gas_fraction (hr.mono (by decide)) tk (q_cons (q_v 0) q_nil)) (q_cons (q_call Gas_fraction (hr.mono (by decide)) tk (q_cons (q_v 1) q_nil)) q_nil)))
(s_one (psd_ret (q_call Gratio (hr.mono (by decide)) tk (q_cons (q_bin opd_add (q_bin opd_mul (q_ix (q_v 2) q_int) (q_ix (q_v 3) q_int)) (q_bin opd_mul (q_ix (q_v 3) q_int) (q_ix (q_v 2) q_int))) (q_cons (q_bin opd_mul (q_ix (q_v 2) q_int) (q_ix (q_v 3) q_int)) q_nil)))))))
theorem oktimes {f : Addr} {fd : FuncData} (F : Fun K "times" "times" stimes f fd) (hx : mg "times" = some (.ref f)) (hb : Binds K fd ["one", "two"] []) (B : Bt mg) (Gas_fraction : FnI P w K mg base 2 "as_fraction" 1 mas_fraction) (Gratio : FnI P w K mg base 1 "ratio" 2 mratio)  : FnI P w K mg base 3 "times" 2 mtimes :=
  fni (k := 2) (N := ["one", "two", "left", "right"]) F hx hb sctimes (by decide) (fun cdv A outer s H E hr => by
  have tk : Takes (cxOf (L2.CX P w) P w K mg base ["one", "two", "left", "right"] "times" (defScope stimes) f cdv A outer s H E) (fun cls d _ H => E cls d H) := takes_of rfl rfl rfl rfl
  have hpo : PassesOwn (model P w) (cxOf (L2.CX P w) P w K mg base ["one", "two", "left", "right"] "times" (defScope stimes) f cdv A outer s H E).A (cxOf (L2.CX P w) P w K mg base ["one", "two", "left", "right"] "times" (defScope stimes) f cdv A outer s H E).env (cxOf (L2.CX P w) P w K mg base ["one", "two", "left", "right"] "times" (defScope stimes) f cdv A outer s H E).xe := passes_of rfl
  exact (s_cons (s_par (inL [0, 1]) (i := 2) (j := 3) rfl sctimes.nd (q_cons (q_call Gas_fraction (hr.mono (by decide)) tk (q_cons (q_v 0) q_nil)) (q_cons (q_call Gas_fraction (hr.mono (by decide)) tk (q_cons (q_v 1) q_nil)) q_nil)))
(s_one (psd_ret (q_call Gratio (hr.mono (by decide)) tk (q_cons (q_bin opd_mul (q_ix (q_v 2) q_int) (q_ix (q_v 3) q_int)) (q_cons (q_bin opd_mul (q_ix (q_v 2) q_int) (q_ix (q_v 3) q_int)) q_nil)))))))
theorem oklaw_ {f : Addr} {fd : FuncData} (F : Fun K "law" "law" slaw f fd) (hb : Binds K fd ["script"] []) (B : Bt mg) (G_law_cell : FnI P w K mg base 1 "_law_cell" 2 m_law_cell) (G_law_digits : FnI P w K mg base 1 "_law_digits" 2 m_law_digits) (G_law_fraction : FnI P w K mg base 3 "_law_fraction" 2 (m_law_fraction 2)) (G_law_minus : FnI P w K mg base 4 "_law_minus" 2 m_law_minus) (G_law_pair : FnI P w K mg base 4 "_law_pair" 5 m_law_pair) (G_law_plus : FnI P w K mg base 4 "_law_plus" 2 m_law_plus) (G_law_refused : FnI P w K mg base 4 "_law_refused" 2 m_law_refused) (G_law_same : FnI P w K mg base 3 "_law_same" 2 (m_law_same 2)) (G_law_times : FnI P w K mg base 4 "_law_times" 2 m_law_times) (Gcompare : FnI P w K mg base 3 "compare" 2 mcompare) (Gis_fraction : FnI P w K mg base 2 "is_fraction" 1 mis_fraction) (Gminus : FnI P w K mg base 3 "minus" 2 mminus) (Gover : FnI P w K mg base 3 "over" 2 mover) (Gplus : FnI P w K mg base 3 "plus" 2 mplus) (Gratio : FnI P w K mg base 1 "ratio" 2 mratio) (Gtimes : FnI P w K mg base 3 "times" 2 mtimes)  : FnOk P w K mg base (L2.CX P w) 5 f fd ["script"] (spD K mg 1 mlaw) :=
  fn_sem (k := 4) (N := ["script", "turn", "row", "one", "two", "handed", "k", "first", "second", "sign", "due", "top", "bottom", "door", "bad", "value"]) F sclaw (by decide) (fun ds l _ => rfl) (fun cdv A outer s H E hr => by
  have tk : Takes (cxOf (L2.CX P w) P w K mg base ["script", "turn", "row", "one", "two", "handed", "k", "first", "second", "sign", "due", "top", "bottom", "door", "bad", "value"] "law" (defScope slaw) f cdv A outer s H E) (fun cls d _ H => E cls d H) := takes_of rfl rfl rfl rfl
  have hpo : PassesOwn (model P w) (cxOf (L2.CX P w) P w K mg base ["script", "turn", "row", "one", "two", "handed", "k", "first", "second", "sign", "due", "top", "bottom", "door", "bad", "value"] "law" (defScope slaw) f cdv A outer s H E).A (cxOf (L2.CX P w) P w K mg base ["script", "turn", "row", "one", "two", "handed", "k", "first", "second", "sign", "due", "top", "bottom", "door", "bad", "value"] "law" (defScope slaw) f cdv A outer s H E).env (cxOf (L2.CX P w) P w K mg base ["script", "turn", "row", "one", "two", "handed", "k", "first", "second", "sign", "due", "top", "bottom", "door", "bad", "value"] "law" (defScope slaw) f cdv A outer s H E).xe := passes_of rfl
  exact (s_cons (psd_for (inL []) hpo rfl (i_r1 B.range q_int) (t_n 1 sclaw.nd)
(s_cons (psd_asg (inL [0, 1]) (q_call G_law_digits (hr.mono (by decide)) tk (q_cons (q_call G_law_cell (hr.mono (by decide)) tk (q_cons (q_v 0) (q_cons (q_v 1) q_nil))) (q_cons (q_new (q_lst (q_cons q_int (q_cons q_int (q_cons q_int (q_cons (q_bin opd_pow q_int q_int) (q_cons (q_bin opd_sub (q_bin opd_pow q_int q_int) q_int) (q_cons q_int (q_cons q_int (q_cons q_int (q_cons q_int (q_cons q_int q_nil)))))))))))) q_nil))) (t_n 2 sclaw.nd))
(s_cons (psd_asg (inL [2]) (q_call G_law_pair (hr.mono (by decide)) tk (q_cons (q_ix (q_v 2) q_int) (q_cons (q_ix (q_v 2) q_int) (q_cons (q_ix (q_v 2) q_int) (q_cons (q_ix (q_v 2) q_int) (q_cons (q_ix (q_v 2) q_int) q_nil)))))) (t_n 3 sclaw.nd))
(s_cons (psd_asg (inL [2]) (q_call G_law_pair (hr.mono (by decide)) tk (q_cons (q_ix (q_v 2) q_int) (q_cons (q_ix (q_v 2) q_int) (q_cons (q_ix (q_v 2) q_int) (q_cons (q_ix (q_v 2) q_int) (q_cons (q_bin opd_mod (q_ix (q_v 2) q_int) (q_bin opd_sub (q_bin opd_pow q_int q_int) q_int)) q_nil)))))) (t_n 4 sclaw.nd))
(s_cons (psd_if (c_cmp (opd_eq (Room.units hr)) (q_ix (q_v 2) q_int) q_int)
(s_one (psd_asg (inL [3]) (q_v 3) (t_n 4 sclaw.nd)))
s_nil)
(s_cons (psd_new (inL [3, 4]) (i := 5) (q_lst (q_cons (q_v 3) (q_cons (q_v 4) q_nil))) sclaw.nd)
(s_cons (psd_for (inL []) hpo rfl (i_r1 B.range q_int) (t_n 6 sclaw.nd)
(s_one (psd_if (c_w (w_and (c_cmp (opd_eq (Room.units hr)) (q_ix (q_ix (q_v 5) (q_v 6)) q_int) q_int) (w_and1 (c_cmp (opd_eq (Room.units hr)) (q_ix (q_v 2) q_int) q_int))))
(s_one (s_set (inL [5, 6]) (i := 5) (q_ix (q_ix (q_v 5) (q_v 6)) q_int) (q_v 6)))
(s_one (psd_if (c_cmp (opd_eq (Room.units hr)) (q_ix (q_v 2) q_int) q_int)
(s_one (s_setN (inL [5, 6]) (i := 5) (q_list B.list (q_cons (q_ix (q_v 5) (q_v 6)) q_nil)) (q_v 6)))
s_nil)))))
(s_cons (psd_asg (inL [5]) (q_ix (q_v 5) q_int) (t_n 7 sclaw.nd))
(s_cons (psd_asg (inL [5]) (q_ix (q_v 5) q_int) (t_n 8 sclaw.nd))
(s_cons (psd_if (c_not (c_v (q_call G_law_same (hr.mono (by decide)) tk (q_cons (q_call Gplus (hr.mono (by decide)) tk (q_cons (q_v 7) (q_cons (q_v 8) q_nil))) (q_cons (q_call G_law_plus (hr.mono (by decide)) tk (q_cons (q_v 3) (q_cons (q_v 4) q_nil))) q_nil)))))
(s_one (psd_ret q_bl))
s_nil)
(s_cons (psd_if (c_not (c_v (q_call G_law_same (hr.mono (by decide)) tk (q_cons (q_call Gminus (hr.mono (by decide)) tk (q_cons (q_v 7) (q_cons (q_v 8) q_nil))) (q_cons (q_call G_law_minus (hr.mono (by decide)) tk (q_cons (q_v 3) (q_cons (q_v 4) q_nil))) q_nil)))))
(s_one (psd_ret q_bl))
s_nil)
(s_cons (psd_if (c_not (c_v (q_call G_law_same (hr.mono (by decide)) tk (q_cons (q_call Gtimes (hr.mono (by decide)) tk (q_cons (q_v 7) (q_cons (q_v 8) q_nil))) (q_cons (q_call G_law_times (hr.mono (by decide)) tk (q_cons (q_v 3) (q_cons (q_v 4) q_nil))) q_nil)))))
(s_one (psd_ret q_bl))
s_nil)
(s_cons (psd_asg (inL [3, 4]) (q_bin opd_sub (q_T cd_int B.int bb_int (q_cons (q_cmp opd_gt (q_bin opd_mul (q_ix (q_v 3) q_int) (q_ix (q_v 4) q_int)) (q_bin opd_mul (q_ix (q_v 4) q_int) (q_ix (q_v 3) q_int))) q_nil)) (q_T cd_int B.int bb_int (q_cons (q_cmp opd_lt (q_bin opd_mul (q_ix (q_v 3) q_int) (q_ix (q_v 4) q_int)) (q_bin opd_mul (q_ix (q_v 4) q_int) (q_ix (q_v 3) q_int))) q_nil))) (t_n 9 sclaw.nd))
(s_cons (psd_if (c_w (w_or (c_not (c_v (q_call G_law_same (hr.mono (by decide)) tk (q_cons (q_call Gcompare (hr.mono (by decide)) tk (q_cons (q_v 7) (q_cons (q_v 8) q_nil))) (q_cons (q_v 9) q_nil))))) (w_or1 (c_not (c_v (q_call G_law_same (hr.mono (by decide)) tk (q_cons (q_call Gcompare (hr.mono (by decide)) tk (q_cons (q_v 8) (q_cons (q_v 7) q_nil))) (q_cons (q_neg (q_v 9)) q_nil))))))))
(s_one (psd_ret q_bl))
s_nil)
(s_cons (psd_if (c_cmp (opd_ne (Room.units hr)) (q_ix (q_v 4) q_int) q_int)
(s_cons (psd_asg (inL [3, 4]) (q_call G_law_fraction (hr.mono (by decide)) tk (q_cons (q_bin opd_mul (q_ix (q_v 3) q_int) (q_ix (q_v 4) q_int)) (q_cons (q_bin opd_mul (q_ix (q_v 3) q_int) (q_ix (q_v 4) q_int)) q_nil))) (t_n 10 sclaw.nd))
(s_one (psd_if (c_not (c_v (q_call G_law_same (hr.mono (by decide)) tk (q_cons (q_call Gover (hr.mono (by decide)) tk (q_cons (q_v 7) (q_cons (q_v 8) q_nil))) (q_cons (q_v 10) q_nil)))))
(s_one (psd_ret q_bl))
s_nil)))
s_nil)
(s_cons (psd_asg (inL [2]) (q_if (c_cmp (opd_eq (Room.units hr)) (q_ix (q_v 2) q_int) q_int) (q_bin opd_sub (q_ix (q_v 2) q_int) (q_bin opd_mul q_int (q_bin opd_pow q_int q_int))) (q_bin opd_mul (q_bin opd_sub (q_ix (q_v 2) q_int) q_int) (q_bin opd_add (q_ix (q_v 2) q_int) q_int))) (t_n 11 sclaw.nd))
(s_cons (psd_asg (inL [2]) (q_if (c_cmp (opd_eq (Room.units hr)) (q_ix (q_v 2) q_int) q_int) (q_bin opd_add (q_ix (q_v 2) q_int) q_int) (q_bin opd_mul (q_bin opd_sub (q_ix (q_v 2) q_int) q_int) (q_bin opd_add (q_ix (q_v 2) q_int) q_int))) (t_n 12 sclaw.nd))
(s_cons (psd_if (c_w (w_and (c_cmp (opd_ne (Room.units hr)) (q_v 12) q_int) (w_and1 (c_not (c_v (q_call G_law_same (hr.mono (by decide)) tk (q_cons (q_call Gratio (hr.mono (by decide)) tk (q_cons (q_v 11) (q_cons (q_v 12) q_nil))) (q_cons (q_call G_law_fraction (hr.mono (by decide)) tk (q_cons (q_v 11) (q_cons (q_v 12) q_nil))) q_nil))))))))
(s_one (psd_ret q_bl))
s_nil)
(s_cons (psd_for (inL []) hpo rfl (i_r1 B.range q_int) (t_n 13 sclaw.nd)
(s_one (psd_if (c_not (c_v (q_call G_law_refused (hr.mono (by decide)) tk (q_cons (q_v 13) (q_cons (q_v 3) q_nil)))))
(s_one (psd_ret q_bl))
s_nil)))
(s_cons (psd_if (c_w (w_or (c_cmp opd_isNot (q_call Gis_fraction (hr.mono (by decide)) tk (q_cons (q_v 3) q_nil)) q_bl) (w_or (c_cmp opd_isNot (q_call Gis_fraction (hr.mono (by decide)) tk (q_cons (q_v 4) q_nil)) q_bl) (w_or1 (c_cmp opd_isNot (q_call Gis_fraction (hr.mono (by decide)) tk (q_cons (q_new (q_list B.list (q_cons (q_v 3) q_nil))) q_nil)) q_bl)))))
(s_one (psd_ret q_bl))
s_nil)
(s_cons (psd_new (inL []) (i := 14) (q_lst (q_cons q_int (q_cons q_non (q_cons q_str (q_cons (q_tup (q_cons q_int q_nil)) (q_cons (q_tup (q_cons q_int (q_cons q_int (q_cons q_int q_nil)))) (q_cons (q_tup (q_cons q_int (q_cons q_int q_nil))) (q_cons (q_tup (q_cons q_int (q_cons q_int q_nil))) (q_cons (q_tup (q_cons q_int (q_cons q_int q_nil))) (q_cons (q_tup (q_cons q_int (q_cons (q_neg q_int) q_nil))) (q_cons (q_tup (q_cons q_bl (q_cons q_int q_nil))) (q_cons (q_tup (q_cons q_int (q_cons q_bl q_nil))) (q_cons (q_tup (q_cons q_str (q_cons q_int q_nil))) (q_cons (q_tup (q_cons (q_tup (q_cons q_int (q_cons q_int q_nil))) (q_cons q_int q_nil))) q_nil)))))))))))))) sclaw.nd)
(s_cons (psd_new (inL [3, 14]) (i := 14) (n_cat (q_v 14) (q_new (q_lst (q_cons (q_tup (q_cons (q_ix (q_v 3) q_int) (q_cons (q_neg (q_ix (q_v 3) q_int)) q_nil))) (q_cons (q_tup q_nil) (q_cons q_bl q_nil)))))) sclaw.nd)
(s_cons (psd_if (c_w (w_and (c_cmp opd_lt (q_B cd_abs B.abs bb_abs (q_cons (q_ix (q_v 3) q_int) q_nil)) (q_bin opd_pow q_int q_int)) (w_and1 (c_cmp opd_lt (q_ix (q_v 3) q_int) (q_bin opd_pow q_int q_int)))))
(s_one (psd_app (inL [3]) (i := 14) (q_tup (q_cons (q_bin opd_mul (q_ix (q_v 3) q_int) q_int) (q_cons (q_bin opd_mul (q_ix (q_v 3) q_int) q_int) q_nil)))))
s_nil)
(s_one (psd_for (inL [14]) hpo rfl (i_s (q_v 14)) (t_n 15 sclaw.nd)
(s_one (psd_if (c_cmp opd_isNot (q_call Gis_fraction (hr.mono (by decide)) tk (q_cons (q_v 15) q_nil)) q_bl)
(s_one (psd_ret q_bl))
s_nil)))))))))))))))))))))))))))
(s_one (psd_ret q_bl))))
end
theorem all_mk {l : PySem.W.OpenLaw} {w : World} {K : PySem.W.Frag} {h : Heap} {mg : Str → Option Value} {fa : Addr} (X : K.In h) (G : h.Ns mainGlobals mg) (hfa : mg "law" = some (.ref fa))
    {CZeroBottom CBadCorners CRaceError : Addr}
    {f0 : Addr} {od0 an0 : Option Addr} {sl0 : Array (Option Value)} {oc0 kV0 dc0 pm0 cd0 ct0 : Value}
    {f1 : Addr} {od1 an1 : Option Addr} {sl1 : Array (Option Value)} {oc1 kV1 dc1 pm1 cd1 ct1 : Value}
    {f2 : Addr} {od2 an2 : Option Addr} {sl2 : Array (Option Value)} {oc2 kV2 dc2 pm2 cd2 ct2 : Value}
    {f3 : Addr} {od3 an3 : Option Addr} {sl3 : Array (Option Value)} {oc3 kV3 dc3 pm3 cd3 ct3 : Value}
    {f4 : Addr} {od4 an4 : Option Addr} {sl4 : Array (Option Value)} {oc4 kV4 dc4 pm4 cd4 ct4 : Value}
    {f5 : Addr} {od5 an5 : Option Addr} {sl5 : Array (Option Value)} {oc5 kV5 dc5 pm5 cd5 ct5 : Value}
    {f6 : Addr} {od6 an6 : Option Addr} {sl6 : Array (Option Value)} {oc6 kV6 dc6 pm6 cd6 ct6 : Value}
    {f7 : Addr} {od7 an7 : Option Addr} {sl7 : Array (Option Value)} {oc7 kV7 dc7 pm7 cd7 ct7 : Value}
    {f8 : Addr} {od8 an8 : Option Addr} {sl8 : Array (Option Value)} {oc8 kV8 dc8 pm8 cd8 ct8 : Value}
    {f9 : Addr} {od9 an9 : Option Addr} {sl9 : Array (Option Value)} {oc9 kV9 dc9 pm9 cd9 ct9 : Value}
    {f10 : Addr} {od10 an10 : Option Addr} {sl10 : Array (Option Value)} {oc10 kV10 dc10 pm10 cd10 ct10 : Value}
    {f11 : Addr} {od11 an11 : Option Addr} {sl11 : Array (Option Value)} {oc11 kV11 dc11 pm11 cd11 ct11 : Value}
    {f12 : Addr} {od12 an12 : Option Addr} {sl12 : Array (Option Value)} {oc12 kV12 dc12 pm12 cd12 ct12 : Value}
    {f13 : Addr} {od13 an13 : Option Addr} {sl13 : Array (Option Value)} {oc13 kV13 dc13 pm13 cd13 ct13 : Value}
    {f14 : Addr} {od14 an14 : Option Addr} {sl14 : Array (Option Value)} {oc14 kV14 dc14 pm14 cd14 ct14 : Value}
    {f15 : Addr} {od15 an15 : Option Addr} {sl15 : Array (Option Value)} {oc15 kV15 dc15 pm15 cd15 ct15 : Value}
    {f16 : Addr} {od16 an16 : Option Addr} {sl16 : Array (Option Value)} {oc16 kV16 dc16 pm16 cd16 ct16 : Value}
    {f17 : Addr} {od17 an17 : Option Addr} {sl17 : Array (Option Value)} {oc17 kV17 dc17 pm17 cd17 ct17 : Value}
    {f18 : Addr} {od18 an18 : Option Addr} {sl18 : Array (Option Value)} {oc18 kV18 dc18 pm18 cd18 ct18 : Value}
    {f19 : Addr} {od19 an19 : Option Addr} {sl19 : Array (Option Value)} {oc19 kV19 dc19 pm19 cd19 ct19 : Value}
    {f20 : Addr} {od20 an20 : Option Addr} {sl20 : Array (Option Value)} {oc20 kV20 dc20 pm20 cd20 ct20 : Value}
    (ca_ZeroBottom : PySem.W.nsIn K mainGlobals "ZeroBottom" = some (some (.ref CZeroBottom)))
    (ca_BadCorners : PySem.W.nsIn K mainGlobals "BadCorners" = some (some (.ref CBadCorners)))
    (ca_RaceError : PySem.W.nsIn K mainGlobals "RaceError" = some (some (.ref CRaceError)))
    (a0 : PySem.W.nsIn K mainGlobals "_law_cell" = some (some (.ref f0)))
    (a1 : PySem.W.nsIn K mainGlobals "_law_digits" = some (some (.ref f1)))
    (a2 : PySem.W.nsIn K mainGlobals "_law_gcd" = some (some (.ref f2)))
    (a3 : PySem.W.nsIn K mainGlobals "_law_fraction" = some (some (.ref f3)))
    (a4 : PySem.W.nsIn K mainGlobals "_law_minus" = some (some (.ref f4)))
    (a5 : PySem.W.nsIn K mainGlobals "_law_pair" = some (some (.ref f5)))
    (a6 : PySem.W.nsIn K mainGlobals "_law_plus" = some (some (.ref f6)))
    (a7 : PySem.W.nsIn K mainGlobals "is_number" = some (some (.ref f7)))
    (a8 : PySem.W.nsIn K mainGlobals "as_fraction" = some (some (.ref f8)))
    (a9 : PySem.W.nsIn K mainGlobals "ratio" = some (some (.ref f9)))
    (a10 : PySem.W.nsIn K mainGlobals "over" = some (some (.ref f10)))
    (a11 : PySem.W.nsIn K mainGlobals "_law_refused" = some (some (.ref f11)))
    (a12 : PySem.W.nsIn K mainGlobals "_law_whole" = some (some (.ref f12)))
    (a13 : PySem.W.nsIn K mainGlobals "_law_same" = some (some (.ref f13)))
    (a14 : PySem.W.nsIn K mainGlobals "_law_times" = some (some (.ref f14)))
    (a15 : PySem.W.nsIn K mainGlobals "compare" = some (some (.ref f15)))
    (a16 : PySem.W.nsIn K mainGlobals "is_fraction" = some (some (.ref f16)))
    (a17 : PySem.W.nsIn K mainGlobals "minus" = some (some (.ref f17)))
    (a18 : PySem.W.nsIn K mainGlobals "plus" = some (some (.ref f18)))
    (a19 : PySem.W.nsIn K mainGlobals "times" = some (some (.ref f19)))
    (a20 : PySem.W.nsIn K mainGlobals "law" = some (some (.ref f20)))
    (cb_ZeroBottom : PySem.W.subIn K (.ref CZeroBottom) (.type "BaseException") = some true)
    (ct_ZeroBottom : PySem.W.typeIn K (.ref CZeroBottom) = some (.type "type"))
    (cd_ZeroBottom : PySem.W.hasDictIn K CZeroBottom = true)
    (cx_ZeroBottom : PySem.W.excIn K CZeroBottom [.type "ValueError", .type "Exception", .type "BaseException", .type "object"] "ValueError.__new__" = true)
    (ck_ZeroBottom : PySem.W.keepIn K (.ref CZeroBottom) = true)
    (kb_ZeroBottom_ValueError : PySem.W.subIn K (.ref CZeroBottom) (.type "ValueError") = some true)
    (cg_ZeroBottom : PySem.W.findIn K (.ref CZeroBottom) "__getattribute__" = some (some (.builtin "BaseException.__getattribute__")))
    (ch_ZeroBottom : PySem.W.findIn K (.ref CZeroBottom) "__getattr__" = some none)
    (cc_ZeroBottom : PySem.W.findIn K (.ref CZeroBottom) "__class__" = some (some (.builtin "object.__class__")))
    (cm_ZeroBottom : PySem.W.mroIn K CZeroBottom (.type "object") = some true)
    (xo1 : PySem.W.specialIn K (.builtin "object.__class__") "__get__" = some (some (.builtin "getset_descriptor.__get__")))
    (xo2 : PySem.W.takesIn K (.builtin "object.__class__") = some true)
    (cb_BadCorners : PySem.W.subIn K (.ref CBadCorners) (.type "BaseException") = some true)
    (ct_BadCorners : PySem.W.typeIn K (.ref CBadCorners) = some (.type "type"))
    (cd_BadCorners : PySem.W.hasDictIn K CBadCorners = true)
    (cs_ZeroBottom_BadCorners : PySem.W.subIn K (.ref CZeroBottom) (.ref CBadCorners) = some false)
    (cs_BadCorners_BadCorners : PySem.W.subIn K (.ref CBadCorners) (.ref CBadCorners) = some true)
    (cb_RaceError : PySem.W.subIn K (.ref CRaceError) (.type "BaseException") = some true)
    (ct_RaceError : PySem.W.typeIn K (.ref CRaceError) = some (.type "type"))
    (cd_RaceError : PySem.W.hasDictIn K CRaceError = true)
    (cs_ZeroBottom_RaceError : PySem.W.subIn K (.ref CZeroBottom) (.ref CRaceError) = some true)
    (cs_ZeroBottom_ZeroBottom : PySem.W.subIn K (.ref CZeroBottom) (.ref CZeroBottom) = some true)
    (l0 : K.lookup f0 = some ⟨oc0, od0, .func (PySem.W.fnOf "_law_cell" "_law_cell" (defArgs s_law_cell) (defBody s_law_cell) (defScope s_law_cell) .none kV0 dc0 pm0 an0 cd0 ct0), sl0⟩)
    (c0 : PySem.W.codeIn K cd0 "_law_cell" = true)
    (k0 : PySem.W.keepIn K (.ref f0) = true)
    (l1 : K.lookup f1 = some ⟨oc1, od1, .func (PySem.W.fnOf "_law_digits" "_law_digits" (defArgs s_law_digits) (defBody s_law_digits) (defScope s_law_digits) .none kV1 dc1 pm1 an1 cd1 ct1), sl1⟩)
    (c1 : PySem.W.codeIn K cd1 "_law_digits" = true)
    (k1 : PySem.W.keepIn K (.ref f1) = true)
    (l2 : K.lookup f2 = some ⟨oc2, od2, .func (PySem.W.fnOf "_law_gcd" "_law_gcd" (defArgs s_law_gcd) (defBody s_law_gcd) (defScope s_law_gcd) .none kV2 dc2 pm2 an2 cd2 ct2), sl2⟩)
    (c2 : PySem.W.codeIn K cd2 "_law_gcd" = true)
    (k2 : PySem.W.keepIn K (.ref f2) = true)
    (l3 : K.lookup f3 = some ⟨oc3, od3, .func (PySem.W.fnOf "_law_fraction" "_law_fraction" (defArgs s_law_fraction) (defBody s_law_fraction) (defScope s_law_fraction) .none kV3 dc3 pm3 an3 cd3 ct3), sl3⟩)
    (c3 : PySem.W.codeIn K cd3 "_law_fraction" = true)
    (k3 : PySem.W.keepIn K (.ref f3) = true)
    (l4 : K.lookup f4 = some ⟨oc4, od4, .func (PySem.W.fnOf "_law_minus" "_law_minus" (defArgs s_law_minus) (defBody s_law_minus) (defScope s_law_minus) .none kV4 dc4 pm4 an4 cd4 ct4), sl4⟩)
    (c4 : PySem.W.codeIn K cd4 "_law_minus" = true)
    (k4 : PySem.W.keepIn K (.ref f4) = true)
    (l5 : K.lookup f5 = some ⟨oc5, od5, .func (PySem.W.fnOf "_law_pair" "_law_pair" (defArgs s_law_pair) (defBody s_law_pair) (defScope s_law_pair) .none kV5 dc5 pm5 an5 cd5 ct5), sl5⟩)
    (c5 : PySem.W.codeIn K cd5 "_law_pair" = true)
    (k5 : PySem.W.keepIn K (.ref f5) = true)
    (l6 : K.lookup f6 = some ⟨oc6, od6, .func (PySem.W.fnOf "_law_plus" "_law_plus" (defArgs s_law_plus) (defBody s_law_plus) (defScope s_law_plus) .none kV6 dc6 pm6 an6 cd6 ct6), sl6⟩)
    (c6 : PySem.W.codeIn K cd6 "_law_plus" = true)
    (k6 : PySem.W.keepIn K (.ref f6) = true)
    (l7 : K.lookup f7 = some ⟨oc7, od7, .func (PySem.W.fnOf "is_number" "is_number" (defArgs sis_number) (defBody sis_number) (defScope sis_number) .none kV7 dc7 pm7 an7 cd7 ct7), sl7⟩)
    (c7 : PySem.W.codeIn K cd7 "is_number" = true)
    (k7 : PySem.W.keepIn K (.ref f7) = true)
    (l8 : K.lookup f8 = some ⟨oc8, od8, .func (PySem.W.fnOf "as_fraction" "as_fraction" (defArgs sas_fraction) (defBody sas_fraction) (defScope sas_fraction) .none kV8 dc8 pm8 an8 cd8 ct8), sl8⟩)
    (c8 : PySem.W.codeIn K cd8 "as_fraction" = true)
    (k8 : PySem.W.keepIn K (.ref f8) = true)
    (l9 : K.lookup f9 = some ⟨oc9, od9, .func (PySem.W.fnOf "ratio" "ratio" (defArgs sratio) (defBody sratio) (defScope sratio) .none kV9 dc9 pm9 an9 cd9 ct9), sl9⟩)
    (c9 : PySem.W.codeIn K cd9 "ratio" = true)
    (k9 : PySem.W.keepIn K (.ref f9) = true)
    (l10 : K.lookup f10 = some ⟨oc10, od10, .func (PySem.W.fnOf "over" "over" (defArgs sover) (defBody sover) (defScope sover) .none kV10 dc10 pm10 an10 cd10 ct10), sl10⟩)
    (c10 : PySem.W.codeIn K cd10 "over" = true)
    (k10 : PySem.W.keepIn K (.ref f10) = true)
    (l11 : K.lookup f11 = some ⟨oc11, od11, .func (PySem.W.fnOf "_law_refused" "_law_refused" (defArgs s_law_refused) (defBody s_law_refused) (defScope s_law_refused) .none kV11 dc11 pm11 an11 cd11 ct11), sl11⟩)
    (c11 : PySem.W.codeIn K cd11 "_law_refused" = true)
    (k11 : PySem.W.keepIn K (.ref f11) = true)
    (l12 : K.lookup f12 = some ⟨oc12, od12, .func (PySem.W.fnOf "_law_whole" "_law_whole" (defArgs s_law_whole) (defBody s_law_whole) (defScope s_law_whole) .none kV12 dc12 pm12 an12 cd12 ct12), sl12⟩)
    (c12 : PySem.W.codeIn K cd12 "_law_whole" = true)
    (k12 : PySem.W.keepIn K (.ref f12) = true)
    (l13 : K.lookup f13 = some ⟨oc13, od13, .func (PySem.W.fnOf "_law_same" "_law_same" (defArgs s_law_same) (defBody s_law_same) (defScope s_law_same) .none kV13 dc13 pm13 an13 cd13 ct13), sl13⟩)
    (c13 : PySem.W.codeIn K cd13 "_law_same" = true)
    (k13 : PySem.W.keepIn K (.ref f13) = true)
    (l14 : K.lookup f14 = some ⟨oc14, od14, .func (PySem.W.fnOf "_law_times" "_law_times" (defArgs s_law_times) (defBody s_law_times) (defScope s_law_times) .none kV14 dc14 pm14 an14 cd14 ct14), sl14⟩)
    (c14 : PySem.W.codeIn K cd14 "_law_times" = true)
    (k14 : PySem.W.keepIn K (.ref f14) = true)
    (l15 : K.lookup f15 = some ⟨oc15, od15, .func (PySem.W.fnOf "compare" "compare" (defArgs scompare) (defBody scompare) (defScope scompare) .none kV15 dc15 pm15 an15 cd15 ct15), sl15⟩)
    (c15 : PySem.W.codeIn K cd15 "compare" = true)
    (k15 : PySem.W.keepIn K (.ref f15) = true)
    (l16 : K.lookup f16 = some ⟨oc16, od16, .func (PySem.W.fnOf "is_fraction" "is_fraction" (defArgs sis_fraction) (defBody sis_fraction) (defScope sis_fraction) .none kV16 dc16 pm16 an16 cd16 ct16), sl16⟩)
    (c16 : PySem.W.codeIn K cd16 "is_fraction" = true)
    (k16 : PySem.W.keepIn K (.ref f16) = true)
    (l17 : K.lookup f17 = some ⟨oc17, od17, .func (PySem.W.fnOf "minus" "minus" (defArgs sminus) (defBody sminus) (defScope sminus) .none kV17 dc17 pm17 an17 cd17 ct17), sl17⟩)
    (c17 : PySem.W.codeIn K cd17 "minus" = true)
    (k17 : PySem.W.keepIn K (.ref f17) = true)
    (l18 : K.lookup f18 = some ⟨oc18, od18, .func (PySem.W.fnOf "plus" "plus" (defArgs splus) (defBody splus) (defScope splus) .none kV18 dc18 pm18 an18 cd18 ct18), sl18⟩)
    (c18 : PySem.W.codeIn K cd18 "plus" = true)
    (k18 : PySem.W.keepIn K (.ref f18) = true)
    (l19 : K.lookup f19 = some ⟨oc19, od19, .func (PySem.W.fnOf "times" "times" (defArgs stimes) (defBody stimes) (defScope stimes) .none kV19 dc19 pm19 an19 cd19 ct19), sl19⟩)
    (c19 : PySem.W.codeIn K cd19 "times" = true)
    (k19 : PySem.W.keepIn K (.ref f19) = true)
    (l20 : K.lookup f20 = some ⟨oc20, od20, .func (PySem.W.fnOf "law" "law" (defArgs slaw) (defBody slaw) (defScope slaw) .none kV20 dc20 pm20 an20 cd20 ct20), sl20⟩)
    (c20 : PySem.W.codeIn K cd20 "law" = true)
    (k20 : PySem.W.keepIn K (.ref f20) = true)
    (z_ValueError : PySem.W.nsIn K mainGlobals "ValueError" = some none)
    (z_abs : PySem.W.nsIn K mainGlobals "abs" = some none)
    (z_bool : PySem.W.nsIn K mainGlobals "bool" = some none)
    (z_gcd : PySem.W.nsIn K mainGlobals "gcd" = some (some (.builtin "math.gcd")))
    (z_int : PySem.W.nsIn K mainGlobals "int" = some none)
    (z_isinstance : PySem.W.nsIn K mainGlobals "isinstance" = some none)
    (z_len : PySem.W.nsIn K mainGlobals "len" = some none)
    (z_list : PySem.W.nsIn K mainGlobals "list" = some none)
    (z_range : PySem.W.nsIn K mainGlobals "range" = some none)
    (z_str : PySem.W.nsIn K mainGlobals "str" = some none)
    (z_tuple : PySem.W.nsIn K mainGlobals "tuple" = some none)
    (hlaw : ∀ ns : List Int, ns.length ≤ 63 → mlaw [.scr ns] = .ok (.bl true)) : ∃ fd : FuncData, (∀ (s : Shared) (v : Value), BindsTo s fd ⟨[v], []⟩ [("script", v)]) ∧ ∀ base : Heap, K.In base → base.Ns mainGlobals mg → FnOk l.prog w K mg base (L2.CX l.prog w) 5 fa fd ["script"] (spLaw K) := by
  have e := hfa.symm.trans (PySem.W.mg_of X G a20)
  cases e
  have B : Bt mg := ⟨PySem.W.mg_none_of X G z_ValueError, PySem.W.mg_none_of X G z_abs, PySem.W.mg_none_of X G z_bool, PySem.W.mg_of X G z_gcd, PySem.W.mg_none_of X G z_int, PySem.W.mg_none_of X G z_isinstance, PySem.W.mg_none_of X G z_len, PySem.W.mg_none_of X G z_list, PySem.W.mg_none_of X G z_range, PySem.W.mg_none_of X G z_str, PySem.W.mg_none_of X G z_tuple⟩
  have EC_ZeroBottom : ErC K mg "ZeroBottom" := ⟨⟨CZeroBottom, (PySem.W.mg_of X G ca_ZeroBottom), cx_ZeroBottom, ck_ZeroBottom, cb_ZeroBottom, ct_ZeroBottom⟩⟩
  have IB_ValueError : IsTb K mg "ValueError" "ValueError" ["ZeroBottom"] [] := isTb_of (PySem.W.mg_none_of X G z_ValueError) (allC_cons (PySem.W.mg_of X G ca_ZeroBottom) (kit_b kb_ZeroBottom_ValueError (by decide +kernel)) allC_nil) allC_nil (allE_cons (⟨⟨CZeroBottom, (PySem.W.mg_of X G ca_ZeroBottom), ⟨cg_ZeroBottom, ch_ZeroBottom, cb_ZeroBottom, cd_ZeroBottom, cc_ZeroBottom, xo1, xo2, cm_ZeroBottom⟩⟩⟩ : ErI K mg "ZeroBottom") allE_nil) allE_nil
  have IC_BadCorners : IsTo K mg "BadCorners" [] ["ZeroBottom"] := isTo_of (PySem.W.mg_of X G ca_BadCorners) allC_nil (allC_cons (PySem.W.mg_of X G ca_ZeroBottom) (kit_f cs_ZeroBottom_BadCorners cs_BadCorners_BadCorners cd_BadCorners ct_BadCorners) allC_nil) allE_nil (allE_cons (⟨⟨CZeroBottom, (PySem.W.mg_of X G ca_ZeroBottom), ⟨cg_ZeroBottom, ch_ZeroBottom, cb_ZeroBottom, cd_ZeroBottom, cc_ZeroBottom, xo1, xo2, cm_ZeroBottom⟩⟩⟩ : ErI K mg "ZeroBottom") allE_nil)
  have IC_RaceError : IsTo K mg "RaceError" ["ZeroBottom"] [] := isTo_of (PySem.W.mg_of X G ca_RaceError) (allC_cons (PySem.W.mg_of X G ca_ZeroBottom) (kit_t cs_ZeroBottom_RaceError cd_RaceError ct_RaceError) allC_nil) allC_nil (allE_cons (⟨⟨CZeroBottom, (PySem.W.mg_of X G ca_ZeroBottom), ⟨cg_ZeroBottom, ch_ZeroBottom, cb_ZeroBottom, cd_ZeroBottom, cc_ZeroBottom, xo1, xo2, cm_ZeroBottom⟩⟩⟩ : ErI K mg "ZeroBottom") allE_nil) allE_nil
  have TC_ZeroBottom : TryC K mg "ZeroBottom" ["ZeroBottom"] [] := tryC_of (PySem.W.mg_of X G ca_ZeroBottom) cb_ZeroBottom cd_ZeroBottom ct_ZeroBottom (allC_cons (PySem.W.mg_of X G ca_ZeroBottom) cs_ZeroBottom_ZeroBottom allC_nil) allC_nil
  have F0 := fun_mk (st := s_law_cell) l0 c0 k0
  have b0 := F0.binds (ps := ["script", "k"]) fun _ _ _ _ _ _ us hl => match us, hl with | [_, _], _ => rfl
  have F1 := fun_mk (st := s_law_digits) l1 c1 k1
  have b1 := F1.binds (ps := ["cell", "sizes"]) fun _ _ _ _ _ _ us hl => match us, hl with | [_, _], _ => rfl
  have F2 := fun_mk (st := s_law_gcd) l2 c2 k2
  have b2 := F2.binds (ps := ["a", "b"]) fun _ _ _ _ _ _ us hl => match us, hl with | [_, _], _ => rfl
  have F3 := fun_mk (st := s_law_fraction) l3 c3 k3
  have b3 := F3.binds (ps := ["top", "bottom"]) fun _ _ _ _ _ _ us hl => match us, hl with | [_, _], _ => rfl
  have F4 := fun_mk (st := s_law_minus) l4 c4 k4
  have b4 := F4.binds (ps := ["one", "two"]) fun _ _ _ _ _ _ us hl => match us, hl with | [_, _], _ => rfl
  have F5 := fun_mk (st := s_law_pair) l5 c5 k5
  have b5 := F5.binds (ps := ["pick", "small", "low", "great", "deep"]) fun _ _ _ _ _ _ us hl => match us, hl with | [_, _, _, _, _], _ => rfl
  have F6 := fun_mk (st := s_law_plus) l6 c6 k6
  have b6 := F6.binds (ps := ["one", "two"]) fun _ _ _ _ _ _ us hl => match us, hl with | [_, _], _ => rfl
  have F7 := fun_mk (st := sis_number) l7 c7 k7
  have b7 := F7.binds (ps := ["value"]) fun _ _ _ _ _ _ us hl => match us, hl with | [_], _ => rfl
  have F8 := fun_mk (st := sas_fraction) l8 c8 k8
  have b8 := F8.binds (ps := ["value"]) fun _ _ _ _ _ _ us hl => match us, hl with | [_], _ => rfl
  have F9 := fun_mk (st := sratio) l9 c9 k9
  have b9 := F9.binds (ps := ["top", "bottom"]) fun _ _ _ _ _ _ us hl => match us, hl with | [_, _], _ => rfl
  have F10 := fun_mk (st := sover) l10 c10 k10
  have b10 := F10.binds (ps := ["one", "two"]) fun _ _ _ _ _ _ us hl => match us, hl with | [_, _], _ => rfl
  have F11 := fun_mk (st := s_law_refused) l11 c11 k11
  have b11 := F11.binds (ps := ["door", "one"]) fun _ _ _ _ _ _ us hl => match us, hl with | [_, _], _ => rfl
  have F12 := fun_mk (st := s_law_whole) l12 c12 k12
  have b12 := F12.binds (ps := ["value"]) fun _ _ _ _ _ _ us hl => match us, hl with | [_], _ => rfl
  have F13 := fun_mk (st := s_law_same) l13 c13 k13
  have b13 := F13.binds (ps := ["value", "due"]) fun _ _ _ _ _ _ us hl => match us, hl with | [_, _], _ => rfl
  have F14 := fun_mk (st := s_law_times) l14 c14 k14
  have b14 := F14.binds (ps := ["one", "two"]) fun _ _ _ _ _ _ us hl => match us, hl with | [_, _], _ => rfl
  have F15 := fun_mk (st := scompare) l15 c15 k15
  have b15 := F15.binds (ps := ["one", "two"]) fun _ _ _ _ _ _ us hl => match us, hl with | [_, _], _ => rfl
  have F16 := fun_mk (st := sis_fraction) l16 c16 k16
  have b16 := F16.binds (ps := ["value"]) fun _ _ _ _ _ _ us hl => match us, hl with | [_], _ => rfl
  have F17 := fun_mk (st := sminus) l17 c17 k17
  have b17 := F17.binds (ps := ["one", "two"]) fun _ _ _ _ _ _ us hl => match us, hl with | [_, _], _ => rfl
  have F18 := fun_mk (st := splus) l18 c18 k18
  have b18 := F18.binds (ps := ["one", "two"]) fun _ _ _ _ _ _ us hl => match us, hl with | [_, _], _ => rfl
  have F19 := fun_mk (st := stimes) l19 c19 k19
  have b19 := F19.binds (ps := ["one", "two"]) fun _ _ _ _ _ _ us hl => match us, hl with | [_, _], _ => rfl
  have F20 := fun_mk (st := slaw) l20 c20 k20
  have b20 := F20.binds (ps := ["script"]) fun _ _ _ _ _ _ us hl => match us, hl with | [_], _ => rfl
  refine ⟨PySem.W.fnOf "law" "law" (defArgs slaw) (defBody slaw) (defScope slaw) .none kV20 dc20 pm20 an20 cd20 ct20, fun s v => .of_eq rfl, fun base _ _ => ?_⟩
  have G_law_cell := ok_law_cell (P := l.prog) (w := w) (base := base) F0 (PySem.W.mg_of X G a0) b0 B  
  have G_law_digits := ok_law_digits (P := l.prog) (w := w) (base := base) F1 (PySem.W.mg_of X G a1) b1 B  
  have G_law_gcd := ok_law_gcd (P := l.prog) (w := w) (base := base) F2 (PySem.W.mg_of X G a2) b2 B  
  have G_law_fraction := ok_law_fraction (P := l.prog) (w := w) (base := base) F3 (PySem.W.mg_of X G a3) b3 B G_law_gcd 2
  have G_law_minus := ok_law_minus (P := l.prog) (w := w) (base := base) F4 (PySem.W.mg_of X G a4) b4 B G_law_fraction 
  have G_law_pair := ok_law_pair (P := l.prog) (w := w) (base := base) F5 (PySem.W.mg_of X G a5) b5 B G_law_fraction 
  have G_law_plus := ok_law_plus (P := l.prog) (w := w) (base := base) F6 (PySem.W.mg_of X G a6) b6 B G_law_fraction 
  have Gis_number := okis_number (P := l.prog) (w := w) (base := base) F7 (PySem.W.mg_of X G a7) b7 B  
  have Gas_fraction := okas_fraction (P := l.prog) (w := w) (base := base) F8 (PySem.W.mg_of X G a8) b8 B Gis_number 
  have Gratio := okratio (P := l.prog) (w := w) (base := base) F9 (PySem.W.mg_of X G a9) b9 B EC_ZeroBottom 
  have Gover := okover (P := l.prog) (w := w) (base := base) F10 (PySem.W.mg_of X G a10) b10 B Gas_fraction Gratio 
  have G_law_refused := ok_law_refused (P := l.prog) (w := w) (base := base) F11 (PySem.W.mg_of X G a11) b11 B Gover Gratio IB_ValueError IC_BadCorners IC_RaceError TC_ZeroBottom 
  have G_law_whole := ok_law_whole (P := l.prog) (w := w) (base := base) F12 (PySem.W.mg_of X G a12) b12 B  
  have G_law_same := ok_law_same (P := l.prog) (w := w) (base := base) F13 (PySem.W.mg_of X G a13) b13 B G_law_whole 2
  have G_law_times := ok_law_times (P := l.prog) (w := w) (base := base) F14 (PySem.W.mg_of X G a14) b14 B G_law_fraction 
  have Gcompare := okcompare (P := l.prog) (w := w) (base := base) F15 (PySem.W.mg_of X G a15) b15 B Gas_fraction 
  have Gis_fraction := okis_fraction (P := l.prog) (w := w) (base := base) F16 (PySem.W.mg_of X G a16) b16 B Gis_number 
  have Gminus := okminus (P := l.prog) (w := w) (base := base) F17 (PySem.W.mg_of X G a17) b17 B Gas_fraction Gratio 
  have Gplus := okplus (P := l.prog) (w := w) (base := base) F18 (PySem.W.mg_of X G a18) b18 B Gas_fraction Gratio 
  have Gtimes := oktimes (P := l.prog) (w := w) (base := base) F19 (PySem.W.mg_of X G a19) b19 B Gas_fraction Gratio 
  exact (oklaw_ (P := l.prog) (w := w) (base := base) F20 b20 B G_law_cell G_law_digits G_law_fraction G_law_minus G_law_pair G_law_plus G_law_refused G_law_same G_law_times Gcompare Gis_fraction Gminus Gover Gplus Gratio Gtimes).imp (law_imp hlaw)
end Wk

namespace Wk
open PySem Sem
theorem mod_b {a b : Int} (h : 0 < b) : 0 ≤ a % b ∧ a % b < b := ⟨Int.emod_nonneg a (by omega), Int.emod_lt_of_pos a h⟩
theorem cell_ok (ns : List Int) (k : Int) (h0 : 0 ≤ k) (h1 : k < 2 ^ 62) : ∃ c, m_law_cell [.scr ns, .int k] = .ok (.int c) := by
  by_cases h : k < (ns.length : Int)
  · obtain ⟨x, hx, _⟩ := atI_in h0 h
    simp [m_law_cell, g_law_cell, h, hx]
  · simp [m_law_cell, g_law_cell, h]
    generalize hgo : forGo _ _ _ _ = o
    have key : ∃ e, o = .nx e ∧ ∃ s x, e = [.sh (.scr ns), .sh (.int k), .sh (.int s), x] ∧ 0 ≤ s ∧ s < 1000003 := by
      rw [← hgo]
      refine forGo_all (fun e => ∃ s x, e = [.sh (.scr ns), .sh (.int k), .sh (.int s), x] ∧ 0 ≤ s ∧ s < 1000003) ⟨17, .no, rfl, by omega, by omega⟩ ?_
      rintro d hd e ⟨s, x, rfl, h0, h1⟩
      obtain ⟨c, _, rfl⟩ := List.mem_map.mp hd
      refine ⟨_, rfl, ?_⟩
      simp [g_law_cell_b1, mulD_ii (MulB_of (i := s) (j := 31) (by omega) (by omega)), modD_ii]
      exact mod_b (by omega)
    obtain ⟨e, rfl, s, x, rfl, hs0, hs1⟩ := key
    have z : ((s + 7) * (k + 3)).natAbs < 2 ^ (25 + 63) := L2.wide_lt (by omega) (by omega)
    simp [modD_ii, mulD_ii (MulB_of (i := s + 7) (j := k + 3) (by omega) (by omega)), mulD_ii (MulB_of (i := (s + 7) * (k + 3)) (j := 69621) (by omega) (by omega))]
def DigTo (sizes row : List Int) (k : Nat) : Prop := row.length = k ∧ ∀ (i : Nat) (r s : Int), row[i]? = some r → sizes[i]? = some s → 0 ≤ r ∧ r < s
/-- the digits of a cell: as many as sizes, each below its size -/
def DigOk : List Int → List Int → Prop
  | [], row => row = []
  | s :: ss, row => ∃ r rs, row = r :: rs ∧ (0 ≤ r ∧ r < s) ∧ DigOk ss rs
theorem dig_ok : ∀ {sizes row : List Int}, DigTo sizes row sizes.length → DigOk sizes row
  | [], row, h => List.length_eq_zero_iff.mp h.1
  | s :: ss, [], h => by have := h.1; simp at this
  | s :: ss, r :: rs, h => ⟨r, rs, rfl, h.2 0 r s rfl rfl, dig_ok ⟨Nat.succ.inj h.1, fun i r' s' e1 e2 => h.2 (i + 1) r' s' e1 e2⟩⟩
theorem dig_more {sizes row : List Int} {s r : Int} {k : Nat} (h : DigTo sizes row k) (hs : sizes[k]? = some s) (h0 : 0 ≤ r) (h1 : r < s) : DigTo sizes (row ++ [r]) (k + 1) := by
  refine ⟨by rw [List.length_append, h.1]; rfl, fun i r' s' e1 e2 => ?_⟩
  by_cases hi : i < row.length
  · rw [List.getElem?_append_left hi] at e1
    exact h.2 i r' s' e1 e2
  · have hi' : i = row.length := by
      have := (List.getElem?_eq_some_iff.mp e1).1
      rw [List.length_append] at this
      simp at this
      omega
    subst hi'
    rw [List.getElem?_append_right (Nat.le_refl _)] at e1
    rw [h.1, hs] at e2
    simp at e1 e2
    omega
theorem digits_1 (c : Int) (sizes : List Int) (hs : ∀ s ∈ sizes, 0 < s ∧ s < 2 ^ 240) (hl : sizes.length < 100000) (h : 1000000000000000000 ≤ c) : ∃ row, m_law_digits [.int c, .lst (sizes.map .int)] = .ok (.lst (row.map .int)) ∧ DigOk sizes row := by
  simp [m_law_digits, g_law_digits, powD_ii, h]
  generalize hgo : forGo _ _ _ _ = o
  obtain ⟨e, rfl, row, rest, x, rfl, hr⟩ := for_ix hgo (fun k e => ∃ row rest x, e = [.sh (.int c), .sh (.lst (sizes.map .int)), .own (row.map .int), .sh (.int rest), x, .no, .no, .no] ∧ DigTo sizes row k)
    ⟨[], _, .no, rfl, rfl, fun i r s e => by simp at e⟩ (by
      rintro k d e hd ⟨row, rest, x, rfl, hr⟩
      obtain ⟨s, hs1, rfl⟩ := ints_at hd
      have hb := hs s (List.mem_of_getElem? hs1)
      have hk := (List.getElem?_eq_some_iff.mp hs1).1
      have hlen := hr.1
      refine ⟨_, rfl, ?_⟩
      have hm := mod_b (a := rest) hb.1
      simp [g_law_digits_b1, modD_ii hb.1, fdivD_ii (DvB_of hb.1 (by omega)), sApp_own, show row.length < 1000000 by omega]
      exact ⟨row ++ [rest % s], by simp, dig_more hr hs1 hm.1 hm.2⟩)
  rw [List.length_map] at hr
  exact ⟨row, by simp, dig_ok hr⟩
theorem digits_2 (c : Int) (sizes : List Int) (hs : ∀ s ∈ sizes, 0 < s ∧ s < 2 ^ 240) (hl : sizes.length < 100000) (h : ¬ 1000000000000000000 ≤ c) : ∃ row, m_law_digits [.int c, .lst (sizes.map .int)] = .ok (.lst (row.map .int)) ∧ DigOk sizes row := by
  simp [m_law_digits, g_law_digits, powD_ii, modD_ii, h, range1D_n (show sizes.length < 2 ^ 62 by omega)]
  generalize hgo : forGo _ _ _ _ = o
  obtain ⟨e, rfl, row, seed, x, y, rfl, h0, h1, hr⟩ := for_ix hgo (fun k e => ∃ row seed x y, e = [.sh (.int c), .sh (.lst (sizes.map .int)), .own (row.map .int), .sh (.int c), .no, .sh (.int seed), x, y] ∧ 0 ≤ seed ∧ seed < 2147483647 ∧ DigTo sizes row k)
    ⟨[], _, .no, .no, rfl, (mod_b (by omega)).1, Int.lt_trans (mod_b (by omega)).2 (by omega), rfl, fun i r s e => by simp at e⟩ (by
      rintro k d e hd ⟨row, seed, x, y, rfl, h0, h1, hr⟩
      obtain ⟨hk, rfl⟩ := range_at hd
      have hs1 : sizes[k]? = some sizes[k] := List.getElem?_eq_getElem hk
      have hb := hs sizes[k] (List.getElem_mem hk)
      have hlen := hr.1
      refine ⟨_, rfl, ?_⟩
      have ha := atI_of (l := sizes.map D.int) (n := k) (k := (k : Int)) (x := D.int sizes[k]) (by rw [List.getElem?_map, hs1]; rfl) rfl
      simp [g_law_digits_b2, modD_ii, mulD_ii (MulB_of (i := seed) (j := 48271) (by omega) (by omega)), mulD_ii (MulB_of (i := 974711) (j := (k : Int)) (by omega) (by omega))]
      have hm := mod_b (a := seed * 48271 + 974711 * (k : Int) + 12345) (b := 2147483647) (by omega)
      generalize (seed * 48271 + 974711 * (k : Int) + 12345) % 2147483647 = seed' at hm ⊢
      simp [modD_ii hb.1, modD_ii (i := seed' * (seed' / 65537 + 3)) (j := 2147483629) (by omega), fdivD_ii (DvB_of (j := 65537) (by omega) (by omega)), fdivD_ii (DvB_of (j := 19) (by omega) (by omega)), mulD_ii (MulB_of (i := seed') (j := seed' / 65537 + 3) (by omega) (by omega)), sApp_own, show row.length < 1000000 by omega, ha]
      have hm2 := mod_b (a := seed' * (seed' / 65537 + 3) % 2147483629 / 19) hb.1
      exact ⟨row ++ [seed' * (seed' / 65537 + 3) % 2147483629 / 19 % sizes[k]], seed', ⟨by simp, rfl⟩, hm.1, hm.2, dig_more hr hs1 hm2.1 hm2.2⟩)
  rw [List.length_map, List.length_range] at hr
  exact ⟨row, by simp, dig_ok hr⟩
theorem digits_ok (c : Int) (sizes : List Int) (hs : ∀ s ∈ sizes, 0 < s ∧ s < 2 ^ 240) (hl : sizes.length < 100000) : ∃ row, m_law_digits [.int c, .lst (sizes.map .int)] = .ok (.lst (row.map .int)) ∧ DigOk sizes row := by
  by_cases h : 1000000000000000000 ≤ c
  · exact digits_1 c sizes hs hl h
  · exact digits_2 c sizes hs hl h
@[simp] theorem m_whole (i : Int) : m_law_whole [.int i] = .ok (.bl true) := by
  simp [m_law_whole, g_law_whole]
/-- data that is the same as itself, n deep -/
def Pln : Nat → D → Prop
  | 0, _ => False
  | _ + 1, .non => True
  | _ + 1, .bl _ => True
  | _ + 1, .int _ => True
  | _ + 1, .str _ => True
  | n + 1, .tup l => l.length < 2 ^ 62 ∧ ∀ d ∈ l, Pln n d
  | _ + 1, _ => False
theorem same_refl : ∀ (n : Nat) (d : D), Pln n d → m_law_same n [d, d] = .ok (.bl true)
  | 0, _, h => h.elim
  | n + 1, d, h => by
    cases d with
    | non => simp [m_law_same, g_law_same]
    | bl b => simp [m_law_same, g_law_same]
    | int b => simp [m_law_same, g_law_same]
    | str b => simp [m_law_same, g_law_same]
    | tup l =>
      have h1 : l.length < 2 ^ 62 := h.1
      have h2 : ∀ d ∈ l, Pln n d := h.2
      simp [m_law_same, g_law_same, range1D_n h1]
      generalize hgo : forGo _ _ _ _ = o
      obtain ⟨e, rfl, he⟩ := for_ix hgo (fun k e => ∃ x, e = [.sh (.tup l), .sh (.tup l), so x]) ⟨none, rfl⟩ (by
        rintro k d e hd ⟨x, rfl⟩
        obtain ⟨hk, rfl⟩ := range_at hd
        refine ⟨_, rfl, ?_⟩
        have ha : ixD (.tup l) (.int (k : Int)) = some l[k] := atI_of (List.getElem?_eq_getElem hk) rfl
        simp [g_law_same_b1, ha, same_refl n _ (h2 _ (List.getElem_mem hk))]
        exact ⟨some (.int k), rfl⟩)
      simp
    | ty _ => exact h.elim
    | cls _ => exact h.elim
    | hnd _ => exact h.elim
    | lst _ => exact h.elim
    | scr _ => exact h.elim
    | obj _ _ _ => exact h.elim
@[simp] theorem same_i (n : Nat) (i : Int) : m_law_same (n + 1) [.int i, .int i] = .ok (.bl true) := same_refl _ _ trivial
@[simp] theorem same_s (n : Nat) (i : Str) : m_law_same (n + 1) [.str i, .str i] = .ok (.bl true) := same_refl _ _ trivial
@[simp] theorem same_b (n : Nat) (i : Bool) : m_law_same (n + 1) [.bl i, .bl i] = .ok (.bl true) := same_refl _ _ trivial
@[simp] theorem same_n (n : Nat) : m_law_same (n + 1) [.non, .non] = .ok (.bl true) := same_refl _ _ trivial
end Wk

namespace Wk
open PySem Sem
theorem gcd_go (a b : Int) : ∀ (n x y : Nat) (r : Option D), y < n → ∃ r', whGo (cCmp neD (eV 3) (eC (.int 0))) g_law_gcd_b1 n [.sh (.int a), .sh (.int b), .sh (.int (x : Int)), .sh (.int (y : Int)), so r] = .nx [.sh (.int a), .sh (.int b), .sh (.int (Nat.gcd x y : Nat)), .sh (.int 0), so r']
  | 0, _, _, _, h => by omega
  | n + 1, x, y, r, h => by
    by_cases hy : y = 0
    · subst hy
      rw [whGo_no (by simp)]
      exact ⟨r, by simp⟩
    · rw [whGo_yes (by simp; omega) (by simp [g_law_gcd_b1, modD_ii (show (0 : Int) < (y : Int) by omega)]; rfl)]
      obtain ⟨r', h'⟩ := gcd_go a b n y (x % y) (some (.int ((x % y : Nat) : Int))) (by have := Nat.mod_lt x (Nat.pos_of_ne_zero hy); omega)
      refine ⟨r', ?_⟩
      rw [Nat.gcd_comm x y, Nat.gcd_rec y x, Nat.gcd_comm (x % y) y]
      rw [← h']
      simp [so]
theorem m_gcd (a b : Int) : m_law_gcd [.int a, .int b] = .ok (.int (Nat.gcd a.natAbs b.natAbs : Nat)) := by
  obtain ⟨r', h⟩ := gcd_go a b (b.natAbs + 1) a.natAbs b.natAbs none (by omega)
  have h2 := sWhile_of _ h
  simp [m_law_gcd, g_law_gcd]
  rw [show (Sl.no) = so none from rfl, h2]
  simp
def nrm (t b : Int) : D := .tup [.int (t / (Nat.gcd t.natAbs b.natAbs : Nat)), .int (b / (Nat.gcd t.natAbs b.natAbs : Nat))]
def frc (t b : Int) : D := if b < 0 then nrm (-t) (-b) else nrm t b
theorem DvB_gcd {t b : Int} (h : b ≠ 0) (hb : b.natAbs < 2 ^ 240) : DvB ((Nat.gcd t.natAbs b.natAbs : Nat) : Int) := by
  have h1 : 0 < Nat.gcd t.natAbs b.natAbs := Nat.gcd_pos_of_pos_right _ (by omega)
  have h2 : Nat.gcd t.natAbs b.natAbs ≤ b.natAbs := Nat.gcd_le_right _ (by omega)
  exact DvB_of (by omega) (by omega)
theorem m_frac1 (n : Nat) (t b : Int) (h : 0 < b) (hb : b.natAbs < 2 ^ 240) : m_law_fraction (n + 1) [.int t, .int b] = .ok (nrm t b) := by
  have hd := DvB_gcd (t := t) (Int.ne_of_gt h) hb
  simp [m_law_fraction, g_law_fraction, m_gcd, show ¬ b < 0 by omega, fdivD_ii hd, nrm]
theorem m_frac (t b : Int) (h : b ≠ 0) (hb : b.natAbs < 2 ^ 240) : m_law_fraction 2 [.int t, .int b] = .ok (frc t b) := by
  by_cases h0 : b < 0
  · have := m_frac1 0 (-t) (-b) (by omega) (by omega)
    simp only [Nat.zero_add] at this
    rw [show (2 : Nat) = 1 + 1 from rfl]
    unfold m_law_fraction
    simp [g_law_fraction, h0, this, frc]
  · rw [m_frac1 1 t b (by omega) hb]
    simp [frc, h0]
theorem m_ratio (t b : Int) (h : b ≠ 0) (hb : b.natAbs < 2 ^ 240) : mratio [.int t, .int b] = .ok (frc t b) := by
  have hd := DvB_gcd (t := t) h hb
  by_cases h0 : b < 0
  · simp [mratio, gratio, h, h0, fdivD_ii hd, frc, nrm]
  · simp [mratio, gratio, h, h0, fdivD_ii hd, frc, nrm]
theorem m_ratio0 (t : Int) : mratio [.int t, .int 0] = .er (.obj "ZeroBottom" [] []) := by
  simp [mratio, gratio]
@[simp] theorem m_number_i (i : Int) : mis_number [.int i] = .ok (.bl true) := by
  simp [mis_number, gis_number]
@[simp] theorem m_number_t (l : List D) : mis_number [.tup l] = .ok (.bl false) := by
  simp [mis_number, gis_number]
@[simp] theorem m_number_l (l : List D) : mis_number [.lst l] = .ok (.bl false) := by
  simp [mis_number, gis_number]
@[simp] theorem m_number_b (l : Bool) : mis_number [.bl l] = .ok (.bl false) := by
  simp [mis_number, gis_number]
@[simp] theorem m_number_s (l : Str) : mis_number [.str l] = .ok (.bl false) := by
  simp [mis_number, gis_number]
/-- a fraction as it is handed -/
def Hd (d : D) (a b : Int) : Prop := (d = .int a ∧ b = 1) ∨ d = .tup [.int a, .int b] ∨ d = .lst [.int a, .int b]
theorem m_as {d : D} {a b : Int} (h : Hd d a b) : mas_fraction [d] = .ok (.tup [.int a, .int b]) := by
  rcases h with ⟨rfl, rfl⟩ | rfl | rfl <;> simp [mas_fraction, gas_fraction]
def Sm (a : Int) : Prop := a.natAbs < 2 ^ 110
structure FrOk (a b : Int) : Prop where
  pos : 1 ≤ b
  cop : Nat.gcd a.natAbs b.natAbs = 1
  sa : Sm a
  sb : Sm b
theorem mulb {a b : Int} (ha : Sm a) (hb : Sm b) : mulD (.int a) (.int b) = some (.int (a * b)) := mulD_ii (MulB_of (by unfold Sm at ha; omega) (by unfold Sm at hb; omega))
theorem mul_small {a b : Int} (ha : Sm a) (hb : Sm b) : (a * b).natAbs < 2 ^ 220 := by
  rw [Int.natAbs_mul]
  exact Nat.lt_of_lt_of_le (Nat.mul_lt_mul'' ha hb) (by decide)
theorem mul_ne {a b : Int} (ha : 1 ≤ a) (hb : 1 ≤ b) : a * b ≠ 0 := Int.ne_of_gt (Int.mul_pos (by omega) (by omega))
section
variable {d1 d2 : D} {a1 b1 a2 b2 : Int}
theorem m_plus (h1 : Hd d1 a1 b1) (h2 : Hd d2 a2 b2) (f1 : FrOk a1 b1) (f2 : FrOk a2 b2) : mplus [d1, d2] = .ok (frc (a1 * b2 + a2 * b1) (b1 * b2)) := by
  have hs := mul_small f1.sb f2.sb
  simp [mplus, gplus, m_as h1, m_as h2, mulb f1.sa f2.sb, mulb f2.sa f1.sb, mulb f1.sb f2.sb, m_ratio _ _ (mul_ne f1.pos f2.pos) (by omega)]
theorem m_minus (h1 : Hd d1 a1 b1) (h2 : Hd d2 a2 b2) (f1 : FrOk a1 b1) (f2 : FrOk a2 b2) : mminus [d1, d2] = .ok (frc (a1 * b2 - a2 * b1) (b1 * b2)) := by
  have hs := mul_small f1.sb f2.sb
  simp [mminus, gminus, m_as h1, m_as h2, mulb f1.sa f2.sb, mulb f2.sa f1.sb, mulb f1.sb f2.sb, m_ratio _ _ (mul_ne f1.pos f2.pos) (by omega)]
theorem m_times (h1 : Hd d1 a1 b1) (h2 : Hd d2 a2 b2) (f1 : FrOk a1 b1) (f2 : FrOk a2 b2) : mtimes [d1, d2] = .ok (frc (a1 * a2) (b1 * b2)) := by
  have hs := mul_small f1.sb f2.sb
  simp [mtimes, gtimes, m_as h1, m_as h2, mulb f1.sa f2.sa, mulb f1.sb f2.sb, m_ratio _ _ (mul_ne f1.pos f2.pos) (by omega)]
theorem m_over (h1 : Hd d1 a1 b1) (h2 : Hd d2 a2 b2) (f1 : FrOk a1 b1) (f2 : FrOk a2 b2) (h : a2 ≠ 0) : mover [d1, d2] = .ok (frc (a1 * b2) (b1 * a2)) := by
  have hs := mul_small f1.sb f2.sa
  have hn : b1 * a2 ≠ 0 := Int.mul_ne_zero (by have := f1.pos; omega) h
  simp [mover, gover, m_as h1, m_as h2, mulb f1.sa f2.sb, mulb f1.sb f2.sa, m_ratio _ _ hn (by omega)]
theorem m_over0 (h1 : Hd d1 a1 b1) (h2 : Hd d2 0 b2) (f1 : FrOk a1 b1) (s2 : Sm b2) : mover [d1, d2] = .er (.obj "ZeroBottom" [] []) := by
  simp [mover, gover, m_as h1, m_as h2, mulb f1.sa s2, mulb f1.sb (show Sm 0 by unfold Sm; decide), m_ratio0]
theorem m_cmp (h1 : Hd d1 a1 b1) (h2 : Hd d2 a2 b2) (f1 : FrOk a1 b1) (f2 : FrOk a2 b2) : mcompare [d1, d2] = .ok (.int (if a1 * b2 < a2 * b1 then -1 else if a2 * b1 < a1 * b2 then 1 else 0)) := by
  by_cases h : a1 * b2 < a2 * b1
  · simp [mcompare, gcompare, m_as h1, m_as h2, mulb f1.sa f2.sb, mulb f2.sa f1.sb, h]
  · simp [mcompare, gcompare, m_as h1, m_as h2, mulb f1.sa f2.sb, mulb f2.sa f1.sb, h]
theorem l_plus (f1 : FrOk a1 b1) (f2 : FrOk a2 b2) : m_law_plus [.tup [.int a1, .int b1], .tup [.int a2, .int b2]] = .ok (frc (a1 * b2 + a2 * b1) (b1 * b2)) := by
  have hs := mul_small f1.sb f2.sb
  simp [m_law_plus, g_law_plus, mulb f1.sa f2.sb, mulb f2.sa f1.sb, mulb f1.sb f2.sb, m_frac _ _ (mul_ne f1.pos f2.pos) (by omega)]
theorem l_minus (f1 : FrOk a1 b1) (f2 : FrOk a2 b2) : m_law_minus [.tup [.int a1, .int b1], .tup [.int a2, .int b2]] = .ok (frc (a1 * b2 - a2 * b1) (b1 * b2)) := by
  have hs := mul_small f1.sb f2.sb
  simp [m_law_minus, g_law_minus, mulb f1.sa f2.sb, mulb f2.sa f1.sb, mulb f1.sb f2.sb, m_frac _ _ (mul_ne f1.pos f2.pos) (by omega)]
theorem l_times (f1 : FrOk a1 b1) (f2 : FrOk a2 b2) : m_law_times [.tup [.int a1, .int b1], .tup [.int a2, .int b2]] = .ok (frc (a1 * a2) (b1 * b2)) := by
  have hs := mul_small f1.sb f2.sb
  simp [m_law_times, g_law_times, mulb f1.sa f2.sa, mulb f1.sb f2.sb, m_frac _ _ (mul_ne f1.pos f2.pos) (by omega)]
end
theorem m_refused (k : Nat) (hk : k < 3) {a b : Int} (f : FrOk a b) : m_law_refused [.int (k : Int), .tup [.int a, .int b]] = .ok (.bl true) := by
  have h1 : Hd (.tup [.int a, .int b]) a b := .inr (.inl rfl)
  have h01 : Hd (.tup [.int 0, .int 1]) 0 1 := .inr (.inl rfl)
  have h0 : Hd (.int 0) 0 1 := .inl ⟨rfl, rfl⟩
  have e : k = 0 ∨ k = 1 ∨ k = 2 := by omega
  rcases e with rfl | rfl | rfl
  · simp [m_law_refused, g_law_refused, g_law_refused_b1, g_law_refused_x2, m_ratio0]
  · simp [m_law_refused, g_law_refused, g_law_refused_b1, g_law_refused_x2, m_over0 h1 h01 f (show Sm 1 by unfold Sm; decide)]
  · simp [m_law_refused, g_law_refused, g_law_refused_b1, g_law_refused_x2, m_over0 h1 h0 f (show Sm 1 by unfold Sm; decide)]

theorem nrm_ok (t b : Int) (h : 0 < b) (st : Sm t) (sb : Sm b) : ∃ a' b', nrm t b = .tup [.int a', .int b'] ∧ FrOk a' b' := by
  have hg : 0 < Nat.gcd t.natAbs b.natAbs := Nat.gcd_pos_of_pos_right _ (by omega)
  obtain ⟨x, hx⟩ : ((Nat.gcd t.natAbs b.natAbs : Nat) : Int) ∣ t := Int.ofNat_dvd_left.mpr (Nat.gcd_dvd_left _ _)
  obtain ⟨y, hy⟩ : ((Nat.gcd t.natAbs b.natAbs : Nat) : Int) ∣ b := Int.ofNat_dvd_left.mpr (Nat.gcd_dvd_right _ _)
  have hx' : t.natAbs = Nat.gcd t.natAbs b.natAbs * x.natAbs := by conv => lhs; rw [hx, Int.natAbs_mul, Int.natAbs_natCast]
  have hy' : b.natAbs = Nat.gcd t.natAbs b.natAbs * y.natAbs := by conv => lhs; rw [hy, Int.natAbs_mul, Int.natAbs_natCast]
  refine ⟨x, y, ?_, ?_, ?_, ?_, ?_⟩
  · unfold nrm
    generalize hG : Nat.gcd t.natAbs b.natAbs = g at *
    have e1 : t / (g : Int) = x := by rw [hx]; exact Int.mul_ediv_cancel_left _ (by omega)
    have e2 : b / (g : Int) = y := by rw [hy]; exact Int.mul_ediv_cancel_left _ (by omega)
    rw [e1, e2]
  · generalize Nat.gcd t.natAbs b.natAbs = g at *
    rw [hy] at h
    have := Int.pos_of_mul_pos_right h (by omega)
    omega
  · have e := Nat.gcd_mul_left (Nat.gcd t.natAbs b.natAbs) x.natAbs y.natAbs
    rw [← hx', ← hy'] at e
    generalize Nat.gcd t.natAbs b.natAbs = g at *
    exact Nat.eq_of_mul_eq_mul_left hg (by omega)
  · generalize Nat.gcd t.natAbs b.natAbs = g at *
    unfold Sm at st ⊢
    have := Nat.le_mul_of_pos_left x.natAbs hg
    omega
  · generalize Nat.gcd t.natAbs b.natAbs = g at *
    unfold Sm at sb ⊢
    have := Nat.le_mul_of_pos_left y.natAbs hg
    omega
theorem frc_ok (t b : Int) (h : b ≠ 0) (st : Sm t) (sb : Sm b) : ∃ a' b', frc t b = .tup [.int a', .int b'] ∧ FrOk a' b' := by
  unfold frc
  by_cases h0 : b < 0
  · rw [if_pos h0]
    exact nrm_ok (-t) (-b) (by omega) (by unfold Sm at *; omega) (by unfold Sm at *; omega)
  · rw [if_neg h0]
    exact nrm_ok t b (by omega) st sb
theorem frc_pln (t b : Int) : Pln 2 (frc t b) := by
  unfold frc nrm
  split
  all_goals
    refine ⟨by simp, fun d hd => ?_⟩
    simp at hd
    rcases hd with rfl | rfl <;> trivial
theorem same_frc (t b : Int) : m_law_same 2 [frc t b, frc t b] = .ok (.bl true) := same_refl 2 _ (frc_pln t b)
theorem m_pair (p s l g d : Int) (hs : 0 ≤ s ∧ s < 41) (hl : 0 ≤ l ∧ l < 30) (hg : 0 ≤ g ∧ g < 1000000000000000000000000000000) (hd : 0 ≤ d ∧ d < 1000000000000000000000000000000) : ∃ a b, m_law_pair [.int p, .int s, .int l, .int g, .int d] = .ok (.tup [.int a, .int b]) ∧ FrOk a b := by
  by_cases h0 : p = 0
  · obtain ⟨a, b, e, f⟩ := frc_ok (g - 500000000000000000000000000000) (d + 1) (by omega) (by unfold Sm; omega) (by unfold Sm; omega)
    refine ⟨a, b, ?_, f⟩
    rw [← e]
    simp [m_law_pair, g_law_pair, h0, powD_ii, mulD_ii (show MulB 5 100000000000000000000000000000 by decide), m_frac _ (d + 1) (by omega) (by omega)]
  · by_cases h1 : p = 1
    · exact ⟨0, 1, by simp [m_law_pair, g_law_pair, h0, h1], by omega, by decide, by unfold Sm; decide, by unfold Sm; decide⟩
    · by_cases h2 : p = 2
      · exact ⟨s - 20, 1, by simp [m_law_pair, g_law_pair, h0, h1, h2], by omega, by simp, by unfold Sm; omega, by unfold Sm; decide⟩
      · obtain ⟨a, b, e, f⟩ := frc_ok (s - 20) (l + 1) (by omega) (by unfold Sm; omega) (by unfold Sm; omega)
        refine ⟨a, b, ?_, f⟩
        rw [← e]
        simp [m_law_pair, g_law_pair, h0, h1, h2, m_frac _ (l + 1) (by omega) (by omega)]
theorem m_isf (a b : Int) : mis_fraction [.tup [.int a, .int b]] = .ok (.bl (decide (1 ≤ b) && decide ((Nat.gcd a.natAbs b.natAbs : Nat) = (1 : Nat)))) := by
  by_cases h : 1 ≤ b
  · simp [mis_fraction, gis_fraction, h]
    omega
  · simp [mis_fraction, gis_fraction, h]
theorem isf_ok {a b : Int} (f : FrOk a b) : mis_fraction [.tup [.int a, .int b]] = .ok (.bl true) := by
  rw [m_isf]
  simp [f.pos, f.cop]
theorem isf_l (l : List D) : mis_fraction [.lst l] = .ok (.bl false) := by
  simp [mis_fraction, gis_fraction]
/-- the bad values -/
def badL (a b : Int) : List D := [.int 5, .non, .str "1/2", .tup [.int 1], .tup [.int 1, .int 2, .int 3], .tup [.int 2, .int 4], .tup [.int 0, .int 2], .tup [.int 1, .int 0], .tup [.int 1, .int (-2)], .tup [.bl true, .int 2], .tup [.int 1, .bl true], .tup [.str "1", .int 2], .tup [.tup [.int 1, .int 2], .int 3], .tup [.int a, .int (-b)], .tup [], .bl true]
theorem bad_f {a b : Int} (f : FrOk a b) (d : D) (h : d ∈ badL a b ∨ d = .tup [.int (a * 2), .int (b * 2)]) : mis_fraction [d] = .ok (.bl false) := by
  rcases h with h | rfl
  · simp only [badL, List.mem_cons, List.not_mem_nil, or_false] at h
    rcases h with rfl | rfl | rfl | rfl | rfl | rfl | rfl | rfl | rfl | rfl | rfl | rfl | rfl | rfl | rfl | rfl
    · simp [mis_fraction, gis_fraction]
    · simp [mis_fraction, gis_fraction]
    · simp [mis_fraction, gis_fraction]
    · simp [mis_fraction, gis_fraction]
    · simp [mis_fraction, gis_fraction]
    · rw [m_isf]; rfl
    · rw [m_isf]; rfl
    · rw [m_isf]; rfl
    · rw [m_isf]; rfl
    · simp [mis_fraction, gis_fraction]
    · simp [mis_fraction, gis_fraction]
    · simp [mis_fraction, gis_fraction]
    · simp [mis_fraction, gis_fraction]
    · rw [m_isf, decide_eq_false (by have := f.pos; omega)]; rfl
    · simp [mis_fraction, gis_fraction]
    · simp [mis_fraction, gis_fraction]
  · rw [m_isf, decide_eq_false (p := Nat.gcd _ _ = 1)]
    · simp
    · rw [Int.natAbs_mul, Int.natAbs_mul, show (2 : Int).natAbs = 2 from rfl, Nat.gcd_mul_right, f.cop]
      decide
def BadP (l : List D) : Prop := ∀ d ∈ l, mis_fraction [d] = .ok (.bl false)
theorem sizes_pos : ∀ s ∈ ([5, 41, 30, 1000000000000000000000000000000, 999999999999999999999999999999, 5, 41, 30, 3, 3] : List Int), 0 < s ∧ s < 2 ^ 240 := by decide +kernel
theorem law_ok (ns : List Int) (_ : ns.length ≤ 63) : mlaw [.scr ns] = .ok (.bl true) := by
  simp [mlaw, glaw, range1D_i]
  generalize hgo : forGo _ _ _ _ = o
  obtain ⟨e, rfl, x1, x2, x3, x4, s5, r, rfl, hr⟩ := for_ix hgo (fun _ e => ∃ x1 x2 x3 x4 s5 r, e = .sh (.scr ns) :: so x1 :: so x2 :: so x3 :: so x4 :: s5 :: r ∧ Al 10 r) ⟨none, none, none, none, .no, _, rfl, by simp⟩ (by
    clear hgo
    rintro k d e hd ⟨x1, x2, x3, x4, s5, _, rfl, x6, _, rfl, x7, _, rfl, x8, _, rfl, x9, _, rfl, x10, _, rfl, x11, _, rfl, x12, _, rfl, x13, _, rfl, x14, _, rfl, x15, _, rfl, rfl⟩
    obtain ⟨hk, rfl⟩ := range_at hd
    refine ⟨_, rfl, ?_⟩
    obtain ⟨c, hc⟩ := cell_ok ns (k : Int) (by omega) (by omega)
    obtain ⟨row, hr, r0, _, rfl, b0, r1, _, rfl, b1, r2, _, rfl, b2, r3, _, rfl, b3, r4, _, rfl, b4, r5, _, rfl, b5, r6, _, rfl, b6, r7, _, rfl, b7, r8, _, rfl, b8, r9, _, rfl, b9, rfl⟩ := digits_ok c [5, 41, 30, 1000000000000000000000000000000, 999999999999999999999999999999, 5, 41, 30, 3, 3] sizes_pos (by decide)
    simp at hr
    obtain ⟨a1, n1, h1, f1⟩ := m_pair r0 r1 r2 r3 r4 b1 b2 b3 (by omega)
    have hm := mod_b (a := r3) (b := 999999999999999999999999999999) (by omega)
    obtain ⟨a2, n2, h2, f2⟩ := m_pair r5 r6 r7 r4 (r3 % 999999999999999999999999999999) b6 b7 (by omega) (by omega)
    simp [glaw_b4, hc, powD_ii, hr, modD_ii (i := r3) (j := 999999999999999999999999999999) (by omega), h1, h2, frz1_not, ite_nx, ite_cons, ite_sh, ite_tup, range1D_i]
    have f3 : FrOk (if r8 = 0 then a1 else a2) (if r8 = 0 then n1 else n2) := by split <;> assumption
    generalize (if r8 = 0 then a1 else a2) = a3 at f3 ⊢
    generalize (if r8 = 0 then n1 else n2) = n3 at f3 ⊢
    generalize hgo2 : forGo _ _ _ _ = o2
    obtain ⟨e2, rfl, d1, d2, y6, _, _, hd1, hd2, rfl⟩ := for_ix hgo2 (fun k2 e => ∃ d1 d2 y6, (k2 = 0 → d1 = .tup [.int a1, .int n1]) ∧ (k2 ≤ 1 → d2 = .tup [.int a3, .int n3]) ∧ Hd d1 a1 n1 ∧ Hd d2 a3 n3 ∧ e = [.sh (.scr ns), .sh (.int k), .sh (.lst [.int r0, .int r1, .int r2, .int r3, .int r4, .int r5, .int r6, .int r7, .int r8, .int r9]), .sh (.tup [.int a1, .int n1]), .sh (.tup [.int a3, .int n3]), .own [d1, d2], so y6, so x7, so x8, so x9, so x10, so x11, so x12, so x13, so x14, so x15])
      ⟨_, _, x6, fun _ => rfl, fun _ => rfl, .inr (.inl rfl), .inr (.inl rfl), rfl⟩ (by
        clear hgo2
        rintro k2 d e hd ⟨d1, d2, y6, g1, g2, g3, g4, rfl⟩
        obtain ⟨hk2, rfl⟩ := range_at hd
        refine ⟨_, rfl, ?_⟩
        have e2 : k2 = 0 ∨ k2 = 1 := by omega
        rcases e2 with rfl | rfl
        · obtain rfl := g1 rfl
          obtain rfl := g2 (by omega)
          by_cases q1 : n1 = 1 ∧ r9 = 0
          · obtain ⟨rfl, rfl⟩ := q1
            simp [glaw_b1, sSet_own, L2.ixN, g4]
            exact ⟨_, .inl ⟨rfl, rfl⟩, rfl, some (.int 0), rfl⟩
          · by_cases q2 : r9 = 1
            · subst q2
              simp [glaw_b1, sSetN_own, L2.ixN, g4]
              exact ⟨_, .inr (.inr rfl), rfl, some (.int 0), rfl⟩
            · by_cases q4 : n1 = 1
              · have q5 : ¬ r9 = 0 := fun z => q1 ⟨q4, z⟩
                subst q4
                simp [glaw_b1, q2, q5, g3, g4]
                exact ⟨_, .inr (.inl rfl), rfl, some (.int 0), rfl⟩
              · simp [glaw_b1, q2, q4, g3, g4]
                exact ⟨_, .inr (.inl rfl), rfl, some (.int 0), rfl⟩
        · obtain rfl := g2 (by omega)
          by_cases q1 : n3 = 1 ∧ r9 = 0
          · obtain ⟨rfl, rfl⟩ := q1
            simp [glaw_b1, sSet_own, L2.ixN, g3]
            exact ⟨_, g3, _, .inl ⟨rfl, rfl⟩, ⟨rfl, rfl⟩, some (.int 1), rfl⟩
          · by_cases q2 : r9 = 1
            · subst q2
              simp [glaw_b1, sSetN_own, L2.ixN, g3]
              exact ⟨_, g3, _, .inr (.inr rfl), ⟨rfl, rfl⟩, some (.int 1), rfl⟩
            · by_cases q4 : n3 = 1
              · have q5 : ¬ r9 = 0 := fun z => q1 ⟨q4, z⟩
                subst q4
                simp [glaw_b1, q2, q5, g3, g4]
                exact ⟨_, g3, _, .inr (.inl rfl), ⟨rfl, rfl⟩, some (.int 1), rfl⟩
              · simp [glaw_b1, q2, q4, g3, g4]
                exact ⟨_, g3, _, .inr (.inl rfl), ⟨rfl, rfl⟩, some (.int 1), rfl⟩)
    clear hgo2
    rw [Out.seq_nx, sSeq_assoc]
    obtain ⟨s5', h5⟩ : ∃ s5', sSeq (sAsg (tN 7) (inL [5]) (eBin ixD (eV 5) (eC (.int 0)))) (sAsg (tN 8) (inL [5]) (eBin ixD (eV 5) (eC (.int 1)))) [.sh (.scr ns), .sh (.int k), .sh (.lst [.int r0, .int r1, .int r2, .int r3, .int r4, .int r5, .int r6, .int r7, .int r8, .int r9]), .sh (.tup [.int a1, .int n1]), .sh (.tup [.int a3, .int n3]), .own [d1, d2], so y6, so x7, so x8, so x9, so x10, so x11, so x12, so x13, so x14, so x15]
        = .nx [.sh (.scr ns), .sh (.int k), .sh (.lst [.int r0, .int r1, .int r2, .int r3, .int r4, .int r5, .int r6, .int r7, .int r8, .int r9]), .sh (.tup [.int a1, .int n1]), .sh (.tup [.int a3, .int n3]), s5', so y6, .sh d1, .sh d2, so x9, so x10, so x11, so x12, so x13, so x14, so x15] := by
      rcases hd1 with ⟨rfl, _⟩ | rfl | rfl <;> rcases hd2 with ⟨rfl, _⟩ | rfl | rfl <;> simp
    rw [h5, Out.seq_nx]
    have es : ((if a3 * n1 < a1 * n3 then (1 : Int) else 0) - if a1 * n3 < a3 * n1 then 1 else 0) = if a1 * n3 < a3 * n1 then -1 else if a3 * n1 < a1 * n3 then 1 else 0 := by
      split <;> split <;> omega
    have es2 : -(if a1 * n3 < a3 * n1 then (-1 : Int) else if a3 * n1 < a1 * n3 then 1 else 0) = if a3 * n1 < a1 * n3 then -1 else if a1 * n3 < a3 * n1 then 1 else 0 := by
      split <;> split <;> omega
    simp [m_plus hd1 hd2 f1 f3, m_minus hd1 hd2 f1 f3, m_times hd1 hd2 f1 f3, l_plus f1 f3, l_minus f1 f3, l_times f1 f3, same_frc, frz1_not, mulb f1.sa f3.sb, mulb f3.sa f1.sb, m_cmp hd1 hd2 f1 f3, m_cmp hd2 hd1 f3 f1, es, es2]
    refine GoOn_seqE (fun y10 => [.sh (.scr ns), .sh (.int k), .sh (.lst [.int r0, .int r1, .int r2, .int r3, .int r4, .int r5, .int r6, .int r7, .int r8, .int r9]), .sh (.tup [.int a1, .int n1]), .sh (.tup [.int a3, .int n3]), s5', so y6, .sh d1, .sh d2, .sh (.int (if a1 * n3 < a3 * n1 then -1 else if a3 * n1 < a1 * n3 then 1 else 0)), so y10, so x11, so x12, so x13, so x14, so x15]) ?_ fun y10 => ?_
    · by_cases ha : a3 = 0
      · simp [ha]
        exact ⟨x10, rfl⟩
      · have hs := mul_small f1.sb f3.sa
        have hn : n1 * a3 ≠ 0 := Int.mul_ne_zero (by have := f1.pos; omega) ha
        simp [ha, mulb f1.sb f3.sa, m_frac _ _ hn (by omega), m_over hd1 hd2 f1 f3 ha, same_frc]
        exact ⟨some _, rfl⟩
    have z1 : MulB (r1 - 20) (r2 + 1) := MulB_of (by omega) (by omega)
    have z2 : MulB (r7 - 15) (r2 + 1) := MulB_of (by omega) (by omega)
    have z3 := mul_small (a := r7 - 15) (b := r2 + 1) (by unfold Sm; omega) (by unfold Sm; omega)
    have z4 : (if r5 = 0 then r4 + 1 else (r7 - 15) * (r2 + 1)).natAbs < 2 ^ 240 := by split <;> omega
    simp [powD_ii, mulD_ii (show MulB 5 100000000000000000000000000000 by decide), mulD_ii z1, mulD_ii z2, frz1_not]
    generalize (if r0 = 0 then r3 - 500000000000000000000000000000 else (r1 - 20) * (r2 + 1)) = tp
    generalize (if r5 = 0 then r4 + 1 else (r7 - 15) * (r2 + 1)) = bt at z4 ⊢
    refine GoOn_seq [.sh (.scr ns), .sh (.int k), .sh (.lst [.int r0, .int r1, .int r2, .int r3, .int r4, .int r5, .int r6, .int r7, .int r8, .int r9]), .sh (.tup [.int a1, .int n1]), .sh (.tup [.int a3, .int n3]), s5', so y6, .sh d1, .sh d2, .sh (.int (if a1 * n3 < a3 * n1 then -1 else if a3 * n1 < a1 * n3 then 1 else 0)), so y10, .sh (.int tp), .sh (.int bt), so x13, so x14, so x15] (by
      by_cases hb : bt = 0
      · simp [hb]
      · simp [hb, m_frac _ _ hb z4, m_ratio _ _ hb z4, same_frc]) ?_
    simp [range1D_i, frz1_not]
    generalize hgo3 : forGo _ _ _ _ = o3
    obtain ⟨e3, rfl, y13, rfl⟩ := for_ix hgo3 (fun _ e => ∃ y13, e = [.sh (.scr ns), .sh (.int k), .sh (.lst [.int r0, .int r1, .int r2, .int r3, .int r4, .int r5, .int r6, .int r7, .int r8, .int r9]), .sh (.tup [.int a1, .int n1]), .sh (.tup [.int a3, .int n3]), s5', so y6, .sh d1, .sh d2, .sh (.int (if a1 * n3 < a3 * n1 then -1 else if a3 * n1 < a1 * n3 then 1 else 0)), so y10, .sh (.int tp), .sh (.int bt), so y13, so x14, so x15]) ⟨_, rfl⟩ (by
      clear hgo3
      rintro k3 d e hd ⟨y13, rfl⟩
      obtain ⟨hk3, rfl⟩ := range_at hd
      refine ⟨_, rfl, ?_⟩
      simp [glaw_b2, m_refused k3 hk3 f1]
      exact ⟨some _, rfl⟩)
    clear hgo3
    simp [isf_ok f1, isf_ok f3, isf_l, frz1_not]
    generalize hO5 : exO _ _ _ = o5
    obtain ⟨l, hl, e5⟩ : ∃ l, BadP l ∧ o5 = .nx [.sh (.scr ns), .sh (.int k), .sh (.lst [.int r0, .int r1, .int r2, .int r3, .int r4, .int r5, .int r6, .int r7, .int r8, .int r9]), .sh (.tup [.int a1, .int n1]), .sh (.tup [.int a3, .int n3]), s5', so y6, .sh d1, .sh d2, .sh (.int (if a1 * n3 < a3 * n1 then -1 else if a3 * n1 < a1 * n3 then 1 else 0)), so y10, .sh (.int tp), .sh (.int bt), so y13, .own l, so x15] := by
      rw [← hO5]
      have hb : BadP (badL a1 n1) := fun d hd => bad_f f1 d (.inl hd)
      by_cases hc1 : (a1.natAbs : Int) < 100000000000000000000000000000
      · by_cases hc2 : n1 < 100000000000000000000000000000
        · refine ⟨badL a1 n1 ++ [.tup [.int (a1 * 2), .int (n1 * 2)]], fun d hd => ?_, ?_⟩
          · rcases List.mem_append.mp hd with h | h
            · exact hb d h
            · rw [List.mem_singleton.mp h]; exact bad_f f1 _ (.inr rfl)
          · simp [powD_ii, hc1, hc2, mulb f1.sa (show Sm 2 by unfold Sm; decide), mulb f1.sb (show Sm 2 by unfold Sm; decide), sApp_own, badL]
        · exact ⟨badL a1 n1, hb, by simp [powD_ii, hc1, hc2, badL]⟩
      · exact ⟨badL a1 n1, hb, by simp [powD_ii, hc1, badL]⟩
    rw [e5, Out.seq_nx]
    clear hO5 e5
    simp [frz1_not]
    generalize hgo6 : forGo _ _ _ _ = o6
    obtain ⟨e6, rfl, y15, rfl⟩ := for_ix hgo6 (fun _ e => ∃ y15, e = [.sh (.scr ns), .sh (.int k), .sh (.lst [.int r0, .int r1, .int r2, .int r3, .int r4, .int r5, .int r6, .int r7, .int r8, .int r9]), .sh (.tup [.int a1, .int n1]), .sh (.tup [.int a3, .int n3]), s5', so y6, .sh d1, .sh d2, .sh (.int (if a1 * n3 < a3 * n1 then -1 else if a3 * n1 < a1 * n3 then 1 else 0)), so y10, .sh (.int tp), .sh (.int bt), so y13, .sh (.lst l), so y15]) ⟨_, rfl⟩ (by
      clear hgo6
      rintro k6 d e hd ⟨y15, rfl⟩
      have hd := hl d (List.mem_of_getElem? hd)
      refine ⟨_, rfl, ?_⟩
      simp [glaw_b3, hd]
      exact ⟨some _, rfl⟩)
    clear hgo6
    exact ⟨some _, some _, some _, some _, s5', _, rfl, by simp⟩)
  simp
end Wk

open PySem PySem.W PyProof.Rows
set_option maxRecDepth 100000 in
set_option maxHeartbeats 0 in
theorem PySem.Challenge.cw_stopsandlaps_k00_fractions_holds : PySem.Challenge.rw_stopsandlaps_k00_fractions.Holds := by
  w_on; o_law; k_head; (case hw => w_witness2)
  k_fill
  refine L2.walk_of (l := PySem.Challenge.rw_stopsandlaps_k00_fractions) (n := 63) (k := 5) (x := "script") (CX := fun w => L2.CX (PySem.Challenge.rw_stopsandlaps_k00_fractions).prog w) (sp := fun w => Sem.spLaw _) rfl (by decide) rfl ⟨rfl, by decide, by decide⟩ (fun w h Y => PySem.W.kIn_of Y) ?F (fun _ _ a ns hl _ hS => ⟨a, ns, rfl, hS, hl, fun _ => rfl⟩) (fun _ _ _ _ _ h => Sem.law_cx h)
  case F =>
    intro w mg fa h KX G hmg
    refine' Wk.all_mk KX G hmg ?ca_ZeroBottom ?ca_BadCorners ?ca_RaceError ?a0 ?a1 ?a2 ?a3 ?a4 ?a5 ?a6 ?a7 ?a8 ?a9 ?a10 ?a11 ?a12 ?a13 ?a14 ?a15 ?a16 ?a17 ?a18 ?a19 ?a20 ?cb_ZeroBottom ?ct_ZeroBottom ?cd_ZeroBottom ?cx_ZeroBottom ?ck_ZeroBottom ?kb_ZeroBottom_ValueError ?cg_ZeroBottom ?ch_ZeroBottom ?cc_ZeroBottom ?cm_ZeroBottom ?xo1 ?xo2 ?cb_BadCorners ?ct_BadCorners ?cd_BadCorners ?cs_ZeroBottom_BadCorners ?cs_BadCorners_BadCorners ?cb_RaceError ?ct_RaceError ?cd_RaceError ?cs_ZeroBottom_RaceError ?cs_ZeroBottom_ZeroBottom ?l0 ?c0 ?k0 ?l1 ?c1 ?k1 ?l2 ?c2 ?k2 ?l3 ?c3 ?k3 ?l4 ?c4 ?k4 ?l5 ?c5 ?k5 ?l6 ?c6 ?k6 ?l7 ?c7 ?k7 ?l8 ?c8 ?k8 ?l9 ?c9 ?k9 ?l10 ?c10 ?k10 ?l11 ?c11 ?k11 ?l12 ?c12 ?k12 ?l13 ?c13 ?k13 ?l14 ?c14 ?k14 ?l15 ?c15 ?k15 ?l16 ?c16 ?k16 ?l17 ?c17 ?k17 ?l18 ?c18 ?k18 ?l19 ?c19 ?k19 ?l20 ?c20 ?k20 ?z_ValueError ?z_abs ?z_bool ?z_gcd ?z_int ?z_isinstance ?z_len ?z_list ?z_range ?z_str ?z_tuple ?hlawok
    (case ca_ZeroBottom => k_is)
    (case ca_BadCorners => k_is)
    (case ca_RaceError => k_is)
    (case a0 => k_is)
    (case a1 => k_is)
    (case a2 => k_is)
    (case a3 => k_is)
    (case a4 => k_is)
    (case a5 => k_is)
    (case a6 => k_is)
    (case a7 => k_is)
    (case a8 => k_is)
    (case a9 => k_is)
    (case a10 => k_is)
    (case a11 => k_is)
    (case a12 => k_is)
    (case a13 => k_is)
    (case a14 => k_is)
    (case a15 => k_is)
    (case a16 => k_is)
    (case a17 => k_is)
    (case a18 => k_is)
    (case a19 => k_is)
    (case a20 => k_is)
    (case cb_ZeroBottom => k_is)
    (case ct_ZeroBottom => k_is)
    (case cd_ZeroBottom => k_is)
    (case cx_ZeroBottom => k_exc)
    (case ck_ZeroBottom => k_is)
    (case kb_ZeroBottom_ValueError => k_is)
    (case cg_ZeroBottom => k_is)
    (case ch_ZeroBottom => k_is)
    (case cc_ZeroBottom => k_is)
    (case cm_ZeroBottom => k_is)
    (case xo1 => k_is)
    (case xo2 => k_is)
    (case cb_BadCorners => k_is)
    (case ct_BadCorners => k_is)
    (case cd_BadCorners => k_is)
    (case cs_ZeroBottom_BadCorners => k_is)
    (case cs_BadCorners_BadCorners => k_is)
    (case cb_RaceError => k_is)
    (case ct_RaceError => k_is)
    (case cd_RaceError => k_is)
    (case cs_ZeroBottom_RaceError => k_is)
    (case cs_ZeroBottom_ZeroBottom => k_is)
    (case l0 => k_is)
    (case c0 => k_is)
    (case k0 => k_is)
    (case l1 => k_is)
    (case c1 => k_is)
    (case k1 => k_is)
    (case l2 => k_is)
    (case c2 => k_is)
    (case k2 => k_is)
    (case l3 => k_is)
    (case c3 => k_is)
    (case k3 => k_is)
    (case l4 => k_is)
    (case c4 => k_is)
    (case k4 => k_is)
    (case l5 => k_is)
    (case c5 => k_is)
    (case k5 => k_is)
    (case l6 => k_is)
    (case c6 => k_is)
    (case k6 => k_is)
    (case l7 => k_is)
    (case c7 => k_is)
    (case k7 => k_is)
    (case l8 => k_is)
    (case c8 => k_is)
    (case k8 => k_is)
    (case l9 => k_is)
    (case c9 => k_is)
    (case k9 => k_is)
    (case l10 => k_is)
    (case c10 => k_is)
    (case k10 => k_is)
    (case l11 => k_is)
    (case c11 => k_is)
    (case k11 => k_is)
    (case l12 => k_is)
    (case c12 => k_is)
    (case k12 => k_is)
    (case l13 => k_is)
    (case c13 => k_is)
    (case k13 => k_is)
    (case l14 => k_is)
    (case c14 => k_is)
    (case k14 => k_is)
    (case l15 => k_is)
    (case c15 => k_is)
    (case k15 => k_is)
    (case l16 => k_is)
    (case c16 => k_is)
    (case k16 => k_is)
    (case l17 => k_is)
    (case c17 => k_is)
    (case k17 => k_is)
    (case l18 => k_is)
    (case c18 => k_is)
    (case k18 => k_is)
    (case l19 => k_is)
    (case c19 => k_is)
    (case k19 => k_is)
    (case l20 => k_is)
    (case c20 => k_is)
    (case k20 => k_is)
    (case z_ValueError => k_is)
    (case z_abs => k_is)
    (case z_bool => k_is)
    (case z_gcd => k_is)
    (case z_int => k_is)
    (case z_isinstance => k_is)
    (case z_len => k_is)
    (case z_list => k_is)
    (case z_range => k_is)
    (case z_str => k_is)
    (case z_tuple => k_is)
    (case hlawok => exact Wk.law_ok)

