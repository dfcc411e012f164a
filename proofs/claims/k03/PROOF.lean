import PyProof.Rows.All
import Wide.All
import OpenK.AllK
import Wide.FinOn
import HandS.ForMost
import HandS.ForExc
import HandS.Walk
import HandS.TupAny
import HandS.TupMul
import HandS.Style
import HandS.Steps
import HandS.Zip
import KE.SortData
import PyProof.CollectStr
import PyProof.TupleOfSeq
import PyProof.Transfer
import HandS.Replace
import HandS.SetFor
import PyProof.ListStr
import KE.KRevSl
import HandS.HeadEnd
import HandS.ExcOwn
import PySem.Challenge.RW_wheelorders_k03_whole_far
set_option Elab.async false
set_option linter.all false
set_option maxRecDepth 100000
set_option maxHeartbeats 4000000
/-! The data layer: what a body does, told over plain data (PyData), with no heap in sight. -/
namespace DL
open PySem L2
abbrev Fg := PySem.W.Frag

/-- what an expression comes to: a datum; an exception of the class numbered c; nothing said -/
inductive Res (α : Type) where
  | ok (a : α)
  | exc (c : Nat)
  | stuck
namespace Res
def bind {α β : Type} (r : Res α) (f : α → Res β) : Res β := match r with
  | .ok a => f a
  | .exc c => .exc c
  | .stuck => .stuck
def on {α : Type} (r : Res α) (k : α → Prop) (e : Nat → Prop) : Prop := match r with
  | .ok a => k a
  | .exc c => e c
  | .stuck => False
@[simp] theorem ok_bind {α β : Type} (a : α) (f : α → Res β) : (Res.ok a).bind f = f a := rfl
@[simp] theorem exc_bind {α β : Type} (c : Nat) (f : α → Res β) : (Res.exc c : Res α).bind f = .exc c := rfl
@[simp] theorem stuck_bind {α β : Type} (f : α → Res β) : (Res.stuck : Res α).bind f = .stuck := rfl
@[simp] theorem ok_on {α : Type} (a : α) (k : α → Prop) (e : Nat → Prop) : (Res.ok a).on k e = k a := rfl
@[simp] theorem exc_on {α : Type} (c : Nat) (k : α → Prop) (e : Nat → Prop) : (Res.exc c : Res α).on k e = e c := rfl
@[simp] theorem stuck_on {α : Type} (k : α → Prop) (e : Nat → Prop) : (Res.stuck : Res α).on k e = False := rfl
/-- c, or nothing said -/
def need {α : Type} (c : Prop) [Decidable c] (r : Res α) : Res α := if c then r else .stuck
theorem need_pos {α : Type} {c : Prop} [Decidable c] (h : c) (r : Res α) : need c r = r := if_pos h
end Res

/-! ### data -/
/-- the text of these signs -/
def S (l : List Nat) : Str := ⟨l.toArray⟩
inductive D where
  | none
  | bool (b : Bool)
  | int (i : Int)
  | str (l : List Nat)
  | list (l : List D)
  | tuple (l : List D)
  | dicK (ks : List Key) (vs : List D)
  | dicT (ks : List (List Key)) (vs : List D)
  | scr (ns : List Int)
/-! v stands for d -/
mutual
def Rp (K : Fg) (H : Hp) : D → V → Prop
  | .none, v => v = .non
  | .bool b, v => v = .bl b
  | .int i, v => v = .int i
  | .str l, v => v = .str (S l)
  | .list l, v => ∃ a xs, v = .ref a ∧ H a = some (.lst xs) ∧ RpAll K H l xs
  | .tuple l, v => ∃ a xs, v = .ref a ∧ SqT K H a xs ∧ RpAll K H l xs
  | .dicK ks vs, v => ∃ a kvs, v = .ref a ∧ H a = some (.dK kvs) ∧ kvs.map (·.1) = ks ∧ RpAll K H vs (kvs.map (·.2))
  | .dicT ks vs, v => ∃ a kvs, v = .ref a ∧ H a = some (.dT kvs) ∧ kvs.map (·.1) = ks ∧ RpAll K H vs (kvs.map (·.2))
  | .scr ns, v => ∃ a, v = .ref a ∧ SqL K H a (ns.map V.int)
def RpAll (K : Fg) (H : Hp) : List D → List V → Prop
  | [], vs => vs = []
  | d :: ds, vs => ∃ v r, vs = v :: r ∧ Rp K H d v ∧ RpAll K H ds r
end
theorem same_rd {H H' : Hp} {a : Addr} {u : HO} (e : Same H H') (h : Rd H a u) : Rd H' a u := by
  rcases h with h | ⟨o, h⟩
  · exact Or.inl (e a _ h)
  · exact Or.inr ⟨o, e a _ h⟩
theorem same_l {K : Fg} {H H' : Hp} {a : Addr} {xs : List V} (e : Same H H') (h : SqL K H a xs) : SqL K H' a xs := by
  rcases h with h | h
  · exact Or.inl (same_rd e h)
  · exact Or.inr h
theorem same_t {K : Fg} {H H' : Hp} {a : Addr} {xs : List V} (e : Same H H') (h : SqT K H a xs) : SqT K H' a xs := by
  rcases h with h | h
  · exact Or.inl (same_rd e h)
  · exact Or.inr h
mutual
theorem Rp.mono {K : Fg} {H H' : Hp} (e : Same H H') : ∀ (d : D) (v : V), Rp K H d v → Rp K H' d v
  | .none, _, h => by unfold Rp at h ⊢; exact h
  | .bool _, _, h => by unfold Rp at h ⊢; exact h
  | .int _, _, h => by unfold Rp at h ⊢; exact h
  | .str _, _, h => by unfold Rp at h ⊢; exact h
  | .list l, _, h => by
    unfold Rp at h ⊢
    obtain ⟨a, xs, hv, ha, hx⟩ := h
    exact ⟨a, xs, hv, e _ _ ha, RpAll.mono e l xs hx⟩
  | .tuple l, _, h => by
    unfold Rp at h ⊢
    obtain ⟨a, xs, hv, ha, hx⟩ := h
    exact ⟨a, xs, hv, same_t e ha, RpAll.mono e l xs hx⟩
  | .dicK ks vs, _, h => by
    unfold Rp at h ⊢
    obtain ⟨a, xs, hv, ha, hk, hx⟩ := h
    exact ⟨a, xs, hv, e _ _ ha, hk, RpAll.mono e vs _ hx⟩
  | .dicT ks vs, _, h => by
    unfold Rp at h ⊢
    obtain ⟨a, xs, hv, ha, hk, hx⟩ := h
    exact ⟨a, xs, hv, e _ _ ha, hk, RpAll.mono e vs _ hx⟩
  | .scr ns, _, h => by
    unfold Rp at h ⊢
    obtain ⟨a, hv, ha⟩ := h
    exact ⟨a, hv, same_l e ha⟩
theorem RpAll.mono {K : Fg} {H H' : Hp} (e : Same H H') : ∀ (ds : List D) (vs : List V), RpAll K H ds vs → RpAll K H' ds vs
  | [], _, h => by unfold RpAll at h ⊢; exact h
  | d :: ds, _, h => by
    unfold RpAll at h ⊢
    obtain ⟨v, r, hv, h1, h2⟩ := h
    exact ⟨v, r, hv, Rp.mono e d v h1, RpAll.mono e ds r h2⟩
end
theorem RpAll.length {K : Fg} {H : Hp} : ∀ {ds : List D} {vs : List V}, RpAll K H ds vs → vs.length = ds.length
  | [], _, h => by unfold RpAll at h; subst h; rfl
  | d :: ds, _, h => by
    unfold RpAll at h
    obtain ⟨v, r, rfl, _, h2⟩ := h
    rw [List.length_cons, List.length_cons, h2.length]
theorem RpAll.get {K : Fg} {H : Hp} : ∀ {ds : List D} {vs : List V} {i : Nat} {v : V}, RpAll K H ds vs → vs[i]? = some v → ∃ d, ds[i]? = some d ∧ Rp K H d v
  | [], _, i, v, h, e => by unfold RpAll at h; subst h; cases e
  | d :: ds, _, i, v, h, e => by
    unfold RpAll at h
    obtain ⟨u, r, rfl, h1, h2⟩ := h
    cases i with
    | zero => cases e; exact ⟨d, rfl, h1⟩
    | succ i => exact h2.get (i := i) e
theorem RpAll.get' {K : Fg} {H : Hp} : ∀ {ds : List D} {vs : List V} {i : Nat} {d : D}, RpAll K H ds vs → ds[i]? = some d → ∃ v, vs[i]? = some v ∧ Rp K H d v
  | [], _, i, d, h, e => by cases e
  | d :: ds, _, i, d', h, e => by
    unfold RpAll at h
    obtain ⟨u, r, rfl, h1, h2⟩ := h
    cases i with
    | zero => cases e; exact ⟨u, rfl, h1⟩
    | succ i => exact h2.get' (i := i) e
theorem RpAll.nil {K : Fg} {H : Hp} : RpAll K H [] [] := by unfold RpAll; rfl
theorem RpAll.cons {K : Fg} {H : Hp} {d : D} {v : V} {ds : List D} {vs : List V} (h : Rp K H d v) (t : RpAll K H ds vs) : RpAll K H (d :: ds) (v :: vs) := by
  unfold RpAll
  exact ⟨v, vs, rfl, h, t⟩
theorem RpAll.append {K : Fg} {H : Hp} : ∀ {ds es : List D} {vs us : List V}, RpAll K H ds vs → RpAll K H es us → RpAll K H (ds ++ es) (vs ++ us)
  | [], es, _, us, h, g => by unfold RpAll at h; subst h; exact g
  | d :: ds, es, _, us, h, g => by
    unfold RpAll at h
    obtain ⟨v, r, rfl, h1, h2⟩ := h
    exact .cons h1 (h2.append g)
theorem RpAll.drop {K : Fg} {H : Hp} : ∀ {ds : List D} {vs : List V} (n : Nat), RpAll K H ds vs → RpAll K H (ds.drop n) (vs.drop n)
  | _, _, 0, h => h
  | [], _, n + 1, h => by unfold RpAll at h; subst h; exact .nil
  | d :: ds, _, n + 1, h => by
    unfold RpAll at h
    obtain ⟨v, r, rfl, h1, h2⟩ := h
    exact h2.drop n
theorem RpAll.take {K : Fg} {H : Hp} : ∀ {ds : List D} {vs : List V} (n : Nat), RpAll K H ds vs → RpAll K H (ds.take n) (vs.take n)
  | ds, vs, 0, h => by rw [List.take_zero, List.take_zero]; exact .nil
  | [], _, n + 1, h => by unfold RpAll at h; subst h; exact .nil
  | d :: ds, _, n + 1, h => by
    unfold RpAll at h
    obtain ⟨v, r, rfl, h1, h2⟩ := h
    exact .cons h1 (h2.take n)
theorem RpAll.reverse {K : Fg} {H : Hp} : ∀ {ds : List D} {vs : List V}, RpAll K H ds vs → RpAll K H ds.reverse vs.reverse
  | [], _, h => by unfold RpAll at h; subst h; exact .nil
  | d :: ds, _, h => by
    unfold RpAll at h
    obtain ⟨v, r, rfl, h1, h2⟩ := h
    rw [List.reverse_cons, List.reverse_cons]
    exact h2.reverse.append (.cons h1 .nil)
theorem RpAll.set {K : Fg} {H : Hp} : ∀ {ds : List D} {vs : List V} {d : D} {v : V} (n : Nat), RpAll K H ds vs → Rp K H d v → RpAll K H (ds.set n d) (vs.set n v)
  | [], _, d, v, n, h, _ => by unfold RpAll at h; subst h; exact .nil
  | e :: ds, _, d, v, n, h, g => by
    unfold RpAll at h
    obtain ⟨u, r, rfl, h1, h2⟩ := h
    cases n with
    | zero => exact .cons g h2
    | succ n => exact .cons h1 (h2.set n g)

/-! no list, no dict within -/
mutual
def imm : D → Bool
  | .none | .bool _ | .int _ | .str _ => true
  | .tuple l => immAll l
  | .list _ | .dicK _ _ | .dicT _ _ | .scr _ => false
def immAll : List D → Bool
  | [] => true
  | d :: r => imm d && immAll r
end
theorem immAll_iff : ∀ (l : List D), immAll l = true ↔ ∀ d ∈ l, imm d = true
  | [] => by simp [immAll]
  | d :: r => by simp [immAll, immAll_iff r]

/-! ### the slots -/
abbrev Dv := List (Option D)
def EnvD (K : Fg) (H : Hp) (σ : St) (δ : Dv) : Prop := δ.length ≤ σ.length ∧ ∀ (i : Nat) (d : D), δ[i]? = some (some d) → ∃ v, σ[i]? = some (some v) ∧ Rp K H d v
theorem EnvD.mono {K : Fg} {H H' : Hp} {σ : St} {δ : Dv} (e : Same H H') (h : EnvD K H σ δ) : EnvD K H' σ δ := ⟨h.1, fun i d q => by
  obtain ⟨v, h1, h2⟩ := h.2 i d q
  exact ⟨v, h1, Rp.mono e _ _ h2⟩⟩
def isBox : D → Bool
  | .list _ | .dicK _ _ | .dicT _ _ | .scr _ => true
  | _ => false
/-- a list or dict is a new one -/
def Fresh (H : Hp) (v : V) (d : D) : Prop := isBox d = true → ∃ p, v = .ref p ∧ H p = none
theorem Fresh.back {H H' : Hp} {v : V} {d : D} (e : Same H H') (h : Fresh H' v d) : Fresh H v d := fun b => by
  obtain ⟨p, hp, hn⟩ := h b
  exact ⟨p, hp, e.free hn⟩

/-- what is wanted behind an expression that comes to r -/
def PostE (K : Fg) (cl : Nat → Addr) (W : WX) (σ : St) (H : Hp) (r : Res D) (Q : VK) : Prop := r.on (fun d => ∀ v H', Same H H' → Rp K H' d v → Q v H') (fun c => ∀ H', Same H H' → W (.ref (cl c)) none σ H')
def PostF (K : Fg) (cl : Nat → Addr) (W : WX) (σ : St) (H : Hp) (r : Res D) (Q : VK) : Prop := r.on (fun d => ∀ v H', Same H H' → Rp K H' d v → Fresh H v d → Q v H') (fun c => ∀ H', Same H H' → W (.ref (cl c)) none σ H')
def PostB (cl : Nat → Addr) (W : WX) (σ : St) (H : Hp) (r : Res Bool) (Q : Bool → Hp → Prop) : Prop := r.on (fun b => ∀ H', Same H H' → Q b H') (fun c => ∀ H', Same H H' → W (.ref (cl c)) none σ H')
def PostA (K : Fg) (cl : Nat → Addr) (W : WX) (σ : St) (H : Hp) (r : Res (List D)) (Q : List V → Hp → Prop) : Prop := r.on (fun ds => ∀ vs H', Same H H' → RpAll K H' ds vs → Q vs H') (fun c => ∀ H', Same H H' → W (.ref (cl c)) none σ H')

/-- e, at slots that stand for δ, comes to f δ -/
def SimE (K : Fg) (cl : Nat → Addr) (W : WX) (te : TE) (f : Dv → Res D) : Prop := ∀ (δ : Dv) (σ : St) (H : Hp) (Q : VK), EnvD K H σ δ → PostE K cl W σ H (f δ) Q → te σ H Q
def SimF (K : Fg) (cl : Nat → Addr) (W : WX) (te : TE) (f : Dv → Res D) : Prop := ∀ (δ : Dv) (σ : St) (H : Hp) (Q : VK), EnvD K H σ δ → PostF K cl W σ H (f δ) Q → te σ H Q
def SimT (K : Fg) (cl : Nat → Addr) (W : WX) (tt : TT) (f : Dv → Res Bool) : Prop := ∀ (δ : Dv) (σ : St) (H : Hp) (Q : Bool → Hp → Prop), EnvD K H σ δ → PostB cl W σ H (f δ) Q → tt σ H Q
def SimA (K : Fg) (cl : Nat → Addr) (W : WX) (ta : TA) (f : Dv → Res (List D)) : Prop := ∀ (δ : Dv) (σ : St) (H : Hp) (Q : List V → Hp → Prop), EnvD K H σ δ → PostA K cl W σ H (f δ) Q → ta σ H Q

structure QE (X : Cx) (cl : Nat → Addr) (W : WX) (e : Expr) (te : TE) (f : Dv → Res D) : Prop where
  pe : PE X e te
  sim : SimE X.K cl W te f
structure QF (X : Cx) (cl : Nat → Addr) (W : WX) (e : Expr) (te : TE) (f : Dv → Res D) : Prop where
  pe : PE X e te
  sim : SimF X.K cl W te f
structure QT (X : Cx) (cl : Nat → Addr) (W : WX) (e : Expr) (te : TT) (f : Dv → Res Bool) : Prop where
  pe : PT X e te
  sim : SimT X.K cl W te f
structure QW (X : Cx) (cl : Nat → Addr) (W : WX) (e : Expr) (te : TT) (f : Dv → Res Bool) : Prop where
  pe : PW X e te
  sim : SimT X.K cl W te f
structure QA (X : Cx) (cl : Nat → Addr) (W : WX) (es : List Expr) (te : TA) (f : Dv → Res (List D)) : Prop where
  pe : PA X es te
  sim : SimA X.K cl W te f

theorem PostE.toF {K : Fg} {cl : Nat → Addr} {W : WX} {σ : St} {H : Hp} {r : Res D} {Q : VK} (h : PostE K cl W σ H r Q) : PostF K cl W σ H r Q := by
  cases r with
  | ok d => exact fun v H' s q _ => h v H' s q
  | exc c => exact h
  | stuck => exact h
theorem QF.qe {X : Cx} {cl : Nat → Addr} {W : WX} {e : Expr} {te : TE} {f : Dv → Res D} (h : QF X cl W e te f) : QE X cl W e te f := ⟨h.pe, fun δ σ H Q en po => h.sim δ σ H Q en po.toF⟩
theorem QW.qt {X : Cx} {cl : Nat → Addr} {W : WX} {e : Expr} {te : TT} {f : Dv → Res Bool} (h : QW X cl W e te f) : QT X cl W e te f := ⟨h.pe.pt, h.sim⟩

/-- an expression, then more -/
theorem PostE.then_ {K : Fg} {cl : Nat → Addr} {W : WX} {σ : St} {H : Hp} {r : Res D} {Q : VK} {P : Hp → Res Bool → Prop}
    (h : r.on (fun d => ∀ v H', Same H H' → Rp K H' d v → Q v H') (fun c => ∀ H', Same H H' → W (.ref (cl c)) none σ H')) : PostE K cl W σ H r Q := h

/-- an expression whose value is fresh if it can't be a list or dict -/
theorem QE.qf {X : Cx} {cl : Nat → Addr} {W : WX} {e : Expr} {te : TE} {f : Dv → Res D} (h : QE X cl W e te f) (nb : ∀ δ d, f δ = .ok d → isBox d = false) : QF X cl W e te f := by
  refine ⟨h.pe, fun δ σ H Q en po => h.sim δ σ H Q en ?_⟩
  cases r : f δ with
  | ok d =>
    rw [r] at po
    exact fun v H' sm q => po v H' sm q fun b => by rw [nb δ d r] at b; cases b
  | exc c => rw [r] at po; exact po
  | stuck => rw [r] at po; exact po
/-- .. or: where it is one nothing is said -/
def noBox (r : Res D) : Res D := r.bind fun d => if isBox d then .stuck else .ok d
theorem QE.qn {X : Cx} {cl : Nat → Addr} {W : WX} {e : Expr} {te : TE} {f : Dv → Res D} (h : QE X cl W e te f) : QF X cl W e te (fun δ => noBox (f δ)) := by
  refine ⟨h.pe, fun δ σ H Q en po => h.sim δ σ H Q en ?_⟩
  change PostF X.K cl W σ H (noBox (f δ)) Q at po
  cases r : f δ with
  | ok d =>
    rw [r] at po
    unfold noBox at po
    rw [Res.ok_bind] at po
    cases b : isBox d with
    | true => rw [b] at po; exact po.elim
    | false =>
      rw [b] at po
      exact fun v H' sm q => po v H' sm q fun z => by rw [b] at z; cases z
  | exc c => rw [r] at po; exact po
  | stuck => rw [r] at po; exact po

section
variable {X : Cx} {cl : Nat → Addr} {W : WX}
/-! ### names and constants -/
def dVar (i : Nat) : Dv → Res D := fun δ => match δ[i]? with
  | some (some d) => .ok d
  | _ => .stuck
theorem q_var {e : Expr} (i : Nat) (h : PE X e (tVar i)) : QE X cl W e (tVar i) (dVar i) := by
  refine ⟨h, fun δ σ H Q en po => ?_⟩
  unfold dVar at po
  cases r : δ[i]? with
  | none => rw [r] at po; exact po.elim
  | some o =>
    cases o with
    | none => rw [r] at po; exact po.elim
    | some d =>
      rw [r] at po
      obtain ⟨v, hv, hr⟩ := en.2 i d r
      exact ⟨v, hv, po v H (Same.refl H) hr⟩
def dC (d : D) : Dv → Res D := fun _ => .ok d
theorem q_c {e : Expr} {v : V} {d : D} (h : PE X e (tC v)) (r : ∀ H, Rp X.K H d v) (nb : isBox d = false := by rfl) : QF X cl W e (tC v) (dC d) :=
  ⟨h, fun _ _ H _ _ po => po v H (Same.refl H) (r H) fun b => by rw [nb] at b; cases b⟩
theorem q_int {i : Int} {j : Nat} {pos : Pos} : QF X cl W (.Constant (.int i) j pos) (tC (.int i)) (dC (.int i)) := q_c pe_int fun _ => by unfold Rp; rfl
theorem q_bl {b : Bool} {j : Nat} {pos : Pos} : QF X cl W (.Constant (.bool b) j pos) (tC (.bl b)) (dC (.bool b)) := q_c pe_bl fun _ => by unfold Rp; rfl
theorem q_non {j : Nat} {pos : Pos} : QF X cl W (.Constant .none j pos) (tC .non) (dC .none) := q_c pe_non fun _ => by unfold Rp; rfl
theorem q_str {x : Str} {j : Nat} {pos : Pos} : QF X cl W (.Constant (.str x) j pos) (tC (.str x)) (dC (.str x.cps.toList)) := q_c pe_str fun _ => by unfold Rp; rfl

/-! ### two operands -/
/-- a two-place operation by values comes to g -/
def SimR (K : Fg) (cl : Nat → Addr) (r : R2) (g : D → D → Res D) : Prop := ∀ (x y : V) (a b : D) (σ : St) (H : Hp) (Q : VK), Rp K H a x → Rp K H b y → PostF K cl (fun _ _ _ _ => False) σ H (g a b) Q → r x y H Q
def d2 (g : D → D → Res D) (f h : Dv → Res D) : Dv → Res D := fun δ => (f δ).bind fun a => (h δ).bind fun b => g a b
def noExc (r : Res D) : Prop := ∀ c, r ≠ .exc c
theorem PostF.weak {K : Fg} {σ : St} {H H' : Hp} {r : Res D} {Q : VK} (s : Same H H') (h : PostF K cl W σ H r Q) : PostF K cl W σ H' r Q := by
  cases r with
  | ok d => exact fun v H2 s2 q fr => h v H2 (s.trans s2) q (fr.back s)
  | exc c => exact fun H2 s2 => h H2 (s.trans s2)
  | stuck => exact h
theorem PostE.weak {K : Fg} {σ : St} {H H' : Hp} {r : Res D} {Q : VK} (s : Same H H') (h : PostE K cl W σ H r Q) : PostE K cl W σ H' r Q := by
  cases r with
  | ok d => exact fun v H2 s2 q => h v H2 (s.trans s2) q
  | exc c => exact fun H2 s2 => h H2 (s.trans s2)
  | stuck => exact h
theorem PostB.weak {σ : St} {H H' : Hp} {r : Res Bool} {Q : Bool → Hp → Prop} (s : Same H H') (h : PostB cl W σ H r Q) : PostB cl W σ H' r Q := by
  cases r with
  | ok d => exact fun H2 s2 => h H2 (s.trans s2)
  | exc c => exact fun H2 s2 => h H2 (s.trans s2)
  | stuck => exact h
theorem PostA.weak {K : Fg} {σ : St} {H H' : Hp} {r : Res (List D)} {Q : List V → Hp → Prop} (s : Same H H') (h : PostA K cl W σ H r Q) : PostA K cl W σ H' r Q := by
  cases r with
  | ok d => exact fun v H2 s2 q => h v H2 (s.trans s2) q
  | exc c => exact fun H2 s2 => h H2 (s.trans s2)
  | stuck => exact h
/-- one expression, its value handed on -/
theorem SimE.chain {K : Fg} {te : TE} {f : Dv → Res D} {β : Type} {k : D → Res β} {δ : Dv} {σ : St} {H : Hp} {Q : VK} {P : Hp → Res β → Prop} (s : SimE K cl W te f) (en : EnvD K H σ δ)
    (po : P H ((f δ).bind k)) (hx : ∀ c, P H (.exc c) → ∀ H', Same H H' → W (.ref (cl c)) none σ H') (hst : ∀ H, ¬ P H .stuck)
    (hk : ∀ d v H', f δ = .ok d → Same H H' → Rp K H' d v → P H (k d) → Q v H') : te σ H Q := by
  refine s δ σ H Q en ?_
  cases r : f δ with
  | ok d => rw [r, Res.ok_bind] at po; exact fun v H' sm q => hk d v H' r sm q po
  | exc c => rw [r] at po; exact hx c po
  | stuck => rw [r] at po; exact (hst H po).elim
theorem tOp_sim {ta tb : TE} {f h : Dv → Res D} {r : R2} {g : D → D → Res D} (sa : SimE X.K cl W ta f) (sb : SimE X.K cl W tb h) (sr : SimR X.K cl r g) (ne : ∀ a b, noExc (g a b)) : SimF X.K cl W (tOp r ta tb) (d2 g f h) := by
  intro δ σ H Q en po
  show ta σ H fun x H1 => tb σ H1 fun y H2 => r x y H2 Q
  refine sa.chain (P := fun H r => PostF X.K cl W σ H r Q) en po (fun c h => h) (fun H h => h) fun a x H1 _ s1 r1 po1 => ?_
  show tb σ H1 fun y H2 => r x y H2 Q
  refine sb.chain (P := fun H r => PostF X.K cl W σ H r Q) (en.mono s1) (po1.weak s1) (fun c h => h) (fun H h => h) fun b y H2 _ s2 r2 po2 => ?_
  refine sr x y a b σ H2 Q (Rp.mono s2 _ _ r1) r2 ?_
  have p3 := po2.weak s2
  cases q : g a b with
  | ok d => rw [q] at p3; exact p3
  | exc c => exact (ne a b c q).elim
  | stuck => rw [q] at p3; exact p3
theorem q_op {a b : Expr} {op : Operator} {pos : Pos} {r : R2} {g : D → D → Res D} {ta tb : TE} {f h : Dv → Res D} (ho : OpR X (binaryOp op) r) (sr : SimR X.K cl r g) (ne : ∀ a b, noExc (g a b)) (ha : QE X cl W a ta f) (hb : QE X cl W b tb h) : QF X cl W (.BinOp a op b pos) (tOp r ta tb) (d2 g f h) := ⟨pe_op ho ha.pe hb.pe, tOp_sim ha.sim hb.sim sr ne⟩
theorem q_cmp {a b : Expr} {op : CmpOp} {pos : Pos} {r : R2} {g : D → D → Res D} {ta tb : TE} {f h : Dv → Res D} (ho : OpR X (compareOp op) r) (sr : SimR X.K cl r g) (ne : ∀ a b, noExc (g a b)) (ha : QE X cl W a ta f) (hb : QE X cl W b tb h) (hm : behindInMarks op b = false := by rfl) : QF X cl W (.Compare a [op] [b] pos) (tOp r ta tb) (d2 g f h) := ⟨pe_cmpR ho ha.pe hb.pe hm, tOp_sim ha.sim hb.sim sr ne⟩
theorem q_ix {a b : Expr} {pos : Pos} {r : R2} {g : D → D → Res D} {ta tb : TE} {f h : Dv → Res D} (ho : IxR X r) (sr : SimR X.K cl r g) (ne : ∀ a b, noExc (g a b)) (ha : QE X cl W a ta f) (hb : QE X cl W b tb h) (hs : PlainIx b := by exact fun _ _ => rfl) : QF X cl W (.Subscript a b pos) (tOp r ta tb) (d2 g f h) := ⟨pe_ix ho ha.pe hb.pe hs, tOp_sim ha.sim hb.sim sr ne⟩
/-- a value as a test: a bool -/
def dB (f : Dv → Res D) : Dv → Res Bool := fun δ => (f δ).bind fun d => match d with
  | .bool b => .ok b
  | _ => .stuck
theorem tTest_sim {te : TE} {f : Dv → Res D} (s : SimE X.K cl W te f) : SimT X.K cl W (tTest te) (dB f) := by
  intro δ σ H Q en po
  show te σ H fun x H' => ∃ k, x = .bl k ∧ Q k H'
  refine s.chain (P := fun H r => PostB cl W σ H r Q) en po (fun c h => h) (fun H h => h) fun d v H1 _ s1 r1 p1 => ?_
  cases d with
  | bool b => unfold Rp at r1; subst r1; exact ⟨b, rfl, p1 H1 s1⟩
  | _ => exact p1.elim
theorem qt_cmp {a b : Expr} {op : CmpOp} {pos : Pos} {r : R2} {g : D → D → Res D} {ta tb : TE} {f h : Dv → Res D} (ho : OpR X (compareOp op) r) (sr : SimR X.K cl r g) (ne : ∀ a b, noExc (g a b)) (ha : QE X cl W a ta f) (hb : QE X cl W b tb h) (hm : behindInMarks op b = false := by rfl) : QT X cl W (.Compare a [op] [b] pos) (tTest (tOp r ta tb)) (dB (d2 g f h)) := ⟨pt_cmpR ho ha.pe hb.pe hm, tTest_sim fun δ σ H Q en po => tOp_sim ha.sim hb.sim sr ne δ σ H Q en po.toF⟩
end
end DL
namespace DL
open PySem L2
/-! ### texts -/
theorem S_len (l : List Nat) : (S l).length = l.length := by simp [S, Str.length]
theorem S_list (l : List Nat) : (S l).cps.toList = l := by simp [S]
theorem S_app (a b : List Nat) : S a ++ S b = S (a ++ b) := by
  show Str.append (S a) (S b) = S (a ++ b)
  simp [S, Str.append]
theorem S_eq (z : Str) : S z.cps.toList = z := by simp [S]
theorem S_inj {a b : List Nat} (h : S a = S b) : a = b := by
  have := congrArg (fun z : Str => z.cps.toList) h
  simpa [S] using this

/-- the longest text or tuple that is spoken of -/
abbrev big : Nat := 1000000
theorem big_le {n : Nat} (h : n ≤ big) : n ≤ sizeLine := Nat.le_trans h (by decide)
theorem big_lt {n : Nat} (h : n ≤ big) : n < sizeLine := Nat.lt_of_le_of_lt h (by decide)

section
variable {K : Fg} {cl : Nat → Addr}
theorem rp_int {H : Hp} {i : Int} {v : V} (h : Rp K H (.int i) v) : v = .int i := by unfold Rp at h; exact h
theorem rp_bl {H : Hp} {i : Bool} {v : V} (h : Rp K H (.bool i) v) : v = .bl i := by unfold Rp at h; exact h
theorem rp_str {H : Hp} {i : List Nat} {v : V} (h : Rp K H (.str i) v) : v = .str (S i) := by unfold Rp at h; exact h
theorem rp_non {H : Hp} {v : V} (h : Rp K H .none v) : v = .non := by unfold Rp at h; exact h
theorem rp_list {H : Hp} {l : List D} {v : V} (h : Rp K H (.list l) v) : ∃ a xs, v = .ref a ∧ H a = some (.lst xs) ∧ RpAll K H l xs := by unfold Rp at h; exact h
theorem rp_tup {H : Hp} {l : List D} {v : V} (h : Rp K H (.tuple l) v) : ∃ a xs, v = .ref a ∧ SqT K H a xs ∧ RpAll K H l xs := by unfold Rp at h; exact h
theorem rpi {H : Hp} (i : Int) : Rp K H (.int i) (.int i) := by unfold Rp; rfl
theorem rpb {H : Hp} (i : Bool) : Rp K H (.bool i) (.bl i) := by unfold Rp; rfl
theorem rpn {H : Hp} : Rp K H .none .non := by unfold Rp; rfl
theorem rps {H : Hp} (i : List Nat) : Rp K H (.str i) (.str (S i)) := by unfold Rp; rfl
theorem rps' {H : Hp} (z : Str) : Rp K H (.str z.cps.toList) (.str z) := by unfold Rp; rw [S_eq]
theorem rpl {H : Hp} {l : List D} {a : Addr} {xs : List V} (h : H a = some (.lst xs)) (r : RpAll K H l xs) : Rp K H (.list l) (.ref a) := by unfold Rp; exact ⟨a, xs, rfl, h, r⟩
theorem rpt {H : Hp} {l : List D} {a : Addr} {xs : List V} (h : SqT K H a xs) (r : RpAll K H l xs) : Rp K H (.tuple l) (.ref a) := by unfold Rp; exact ⟨a, xs, rfl, h, r⟩
theorem same_new {H : Hp} {p : Addr} {o : HO} (h : H p = none) : Same H (upd H p o) := fun a u e => by
  rw [upd_ne (ne_of_none e h)]
  exact e
theorem fresh_no {H : Hp} {v : V} {d : D} (h : isBox d = false) : Fresh H v d := fun b => by rw [h] at b; cases b
theorem fresh_of {H : Hp} {p : Addr} {d : D} (h : H p = none) : Fresh H (.ref p) d := fun _ => ⟨p, rfl, h⟩
theorem need_on {α : Type} {c : Prop} [Decidable c] {r : Res α} {k : α → Prop} {e : Nat → Prop} (h : (Res.need c r).on k e) : c ∧ r.on k e := by
  unfold Res.need at h
  by_cases hc : c
  · rw [if_pos hc] at h; exact ⟨hc, h⟩
  · rw [if_neg hc] at h; exact h.elim
theorem need_noExc {c : Prop} [Decidable c] {r : Res D} (h : noExc r) : noExc (Res.need c r) := fun k => by
  unfold Res.need
  by_cases hc : c
  · rw [if_pos hc]; exact h k
  · rw [if_neg hc]; intro z; cases z
theorem ok_noExc {d : D} : noExc (.ok d) := fun k z => by cases z
theorem stuck_noExc : noExc .stuck := fun k z => by cases z

theorem RpAll.nil_inv {H : Hp} {l : List D} (h : RpAll K H l []) : l = [] := List.length_eq_zero_iff.mp h.length.symm
/-! ### + -/
def oAdd : D → D → Res D
  | .int i, .int j => .ok (.int (i + j))
  | .str x, .str y => Res.need (x.length + y.length ≤ big) (.ok (.str (x ++ y)))
  | .tuple x, .tuple y => Res.need (x.length + y.length ≤ big) (.ok (.tuple (x ++ y)))
  | .list x, .list y => Res.need (x.length + y.length ≤ big) (.ok (.list (x ++ y)))
  | _, _ => .stuck
theorem oAdd_ne (a b : D) : noExc (oAdd a b) := by
  unfold oAdd
  split
  · exact ok_noExc
  · exact need_noExc ok_noExc
  · exact need_noExc ok_noExc
  · exact need_noExc ok_noExc
  · exact stuck_noExc
def rAddA (K : Fg) : R2 := fun x y H Q => (∃ i j, x = .int i ∧ y = .int j ∧ Q (.int (i + j)) H) ∨ (∃ i j, x = .str i ∧ y = .str j ∧ i.length + j.length ≤ sizeLine ∧ Q (.str (i ++ j)) H) ∨ rCatA K x y H Q ∨ rCat x y H Q
theorem or_add {X : Cx} : OpR X (binaryOp .Add) (rAddA X.K) := OpR.or op_add (OpR.or op_add_str (OpR.or op_catA op_cat))
theorem sim_add : SimR K cl (rAddA K) oAdd := by
  intro x y a b σ H Q ra rb po
  unfold oAdd at po
  split at po
  · obtain rfl := rp_int ra; obtain rfl := rp_int rb
    exact .inl ⟨_, _, rfl, rfl, po _ H (Same.refl H) (rpi _) (fresh_no rfl)⟩
  · obtain rfl := rp_str ra; obtain rfl := rp_str rb
    obtain ⟨hc, po⟩ := need_on po
    refine .inr (.inl ⟨_, _, rfl, rfl, by rw [S_len, S_len]; exact big_le hc, ?_⟩)
    rw [S_app]
    exact po _ H (Same.refl H) (rps _) (fresh_no rfl)
  · obtain ⟨p, xs, rfl, hp, hx⟩ := rp_tup ra
    obtain ⟨q, ys, rfl, hq, hy⟩ := rp_tup rb
    obtain ⟨hc, po⟩ := need_on po
    refine .inr (.inr (.inl ⟨p, q, xs, ys, rfl, rfl, hp, hq, by rw [hx.length, hy.length]; exact big_le hc, fun e => ?_, fun _ e => ?_, fun _ _ z hz => ?_⟩))
    · subst e
      rw [hx.nil_inv, List.nil_append] at po
      exact po _ H (Same.refl H) (rpt hq hy) (fresh_no rfl)
    · subst e
      rw [hy.nil_inv, List.append_nil] at po
      exact po _ H (Same.refl H) (rpt hp hx) (fresh_no rfl)
    · have s := same_new (o := .tup (xs ++ ys)) hz
      exact po _ _ s (rpt (Or.inl (Or.inl upd_same)) ((RpAll.mono s _ _ hx).append (RpAll.mono s _ _ hy))) (fresh_no rfl)
  · obtain ⟨p, xs, rfl, hp, hx⟩ := rp_list ra
    obtain ⟨q, ys, rfl, hq, hy⟩ := rp_list rb
    obtain ⟨hc, po⟩ := need_on po
    refine .inr (.inr (.inr ⟨p, q, xs, ys, rfl, rfl, hp, hq, by rw [hx.length, hy.length]; exact big_le hc, fun z hz => ?_⟩))
    have s := same_new (o := .lst (xs ++ ys)) hz
    exact po _ _ s (rpl upd_same ((RpAll.mono s _ _ hx).append (RpAll.mono s _ _ hy))) (fresh_of hz)
  · exact po.elim
/-! ### - * // % -/
def oSub : D → D → Res D
  | .int i, .int j => .ok (.int (i - j))
  | _, _ => .stuck
theorem oSub_ne (a b : D) : noExc (oSub a b) := by
  unfold oSub
  split
  · exact ok_noExc
  · exact stuck_noExc
theorem sim_sub : SimR K cl (rI0 fun i j => .int (i - j)) oSub := by
  intro x y a b σ H Q ra rb po
  unfold oSub at po
  split at po
  · obtain rfl := rp_int ra; obtain rfl := rp_int rb
    exact ⟨_, _, rfl, rfl, po _ H (Same.refl H) (rpi _) (fresh_no rfl)⟩
  · exact po.elim
def smallI (i : Int) : Prop := i.natAbs < 18446744073709551616
instance (i : Int) : Decidable (smallI i) := inferInstanceAs (Decidable (_ < _))
theorem smallI_ok {i : Int} (h : smallI i) : -(2 ^ 64) < i ∧ i < 2 ^ 64 := by
  unfold smallI at h
  omega
def oMul : D → D → Res D
  | .int i, .int j => Res.need (smallI i ∨ smallI j) (.ok (.int (i * j)))
  | .list l, .int k => Res.need (0 ≤ k ∧ k.natAbs ≤ 1000 ∧ l.length ≤ 1000) (.ok (.list (List.replicate k.toNat l).flatten))
  | _, _ => .stuck
theorem oMul_ne (a b : D) : noExc (oMul a b) := by
  unfold oMul
  split
  · exact need_noExc ok_noExc
  · exact need_noExc ok_noExc
  · exact stuck_noExc
theorem RpAll.rep {H : Hp} {l : List D} {xs : List V} (h : RpAll K H l xs) : ∀ n, RpAll K H (List.replicate n l).flatten (List.replicate n xs).flatten
  | 0 => .nil
  | n + 1 => by
    rw [List.replicate_succ, List.replicate_succ, List.flatten_cons, List.flatten_cons]
    exact h.append (RpAll.rep h n)
def rMulA : R2 := fun x y H Q => rI CMul (fun i j => .int (i * j)) x y H Q ∨ rRep x y H Q
theorem or_mul {X : Cx} : OpR X (binaryOp .Mult) rMulA := OpR.or op_mul op_rep
theorem sim_mul : SimR K cl rMulA oMul := by
  intro x y a b σ H Q ra rb po
  unfold oMul at po
  split at po
  · obtain rfl := rp_int ra; obtain rfl := rp_int rb
    obtain ⟨hc, po⟩ := need_on po
    exact .inl ⟨_, _, rfl, rfl, hc.imp smallI_ok smallI_ok, po _ H (Same.refl H) (rpi _) (fresh_no rfl)⟩
  · rename_i l k
    obtain ⟨p, xs, rfl, hp, hx⟩ := rp_list ra; obtain rfl := rp_int rb
    obtain ⟨⟨h0, h1, h2⟩, po⟩ := need_on po
    have hk : k.toNat ≤ 1000 := by omega
    have hm : xs.length * k.toNat ≤ big := by
      rw [hx.length]
      exact Nat.le_trans (Nat.mul_le_mul h2 hk) (by decide)
    refine .inr ⟨p, _, xs, rfl, rfl, hp, by omega, by omega, big_le hm, fun z hz => ?_⟩
    have s := same_new (o := .lst (List.replicate k.toNat xs).flatten) hz
    exact po _ _ s (rpl upd_same (RpAll.rep (RpAll.mono s _ _ hx) _)) (fresh_of hz)
  · exact po.elim
def oMod : D → D → Res D
  | .int i, .int j => Res.need (0 < j) (.ok (.int (i % j)))
  | _, _ => .stuck
theorem oMod_ne (a b : D) : noExc (oMod a b) := by
  unfold oMod
  split
  · exact need_noExc ok_noExc
  · exact stuck_noExc
theorem sim_mod : SimR K cl (rI (fun _ j => 0 < j) fun i j => .int (i % j)) oMod := by
  intro x y a b σ H Q ra rb po
  unfold oMod at po
  split at po
  · obtain rfl := rp_int ra; obtain rfl := rp_int rb
    obtain ⟨hc, po⟩ := need_on po
    exact ⟨_, _, rfl, rfl, hc, po _ H (Same.refl H) (rpi _) (fresh_no rfl)⟩
  · exact po.elim
def oDiv : D → D → Res D
  | .int i, .int j => Res.need (0 < j ∧ j.natAbs ≤ big) (.ok (.int (i / j)))
  | _, _ => .stuck
theorem oDiv_ne (a b : D) : noExc (oDiv a b) := by
  unfold oDiv
  split
  · exact need_noExc ok_noExc
  · exact stuck_noExc
theorem sim_div : SimR K cl (rI CDiv fun i j => .int (i / j)) oDiv := by
  intro x y a b σ H Q ra rb po
  unfold oDiv at po
  split at po
  · obtain rfl := rp_int ra; obtain rfl := rp_int rb
    obtain ⟨hc, po⟩ := need_on po
    exact ⟨_, _, rfl, rfl, ⟨hc.1, by have := hc.2; unfold big at this; omega⟩, po _ H (Same.refl H) (rpi _) (fresh_no rfl)⟩
  · exact po.elim
/-! ### < <= > >= of ints and texts -/
def oCmp (p : Int → Int → Bool) (q : List Nat → List Nat → Bool) : D → D → Res D
  | .int i, .int j => .ok (.bool (p i j))
  | .str x, .str y => .ok (.bool (q x y))
  | _, _ => .stuck
theorem oCmp_ne (p : Int → Int → Bool) (q : List Nat → List Nat → Bool) (a b : D) : noExc (oCmp p q a b) := by
  unfold oCmp
  split
  · exact ok_noExc
  · exact ok_noExc
  · exact stuck_noExc
def rCmpA (p : Int → Int → Bool) (q : List Nat → List Nat → Bool) : R2 := fun x y H Q => rI0 (fun i j => .bl (p i j)) x y H Q ∨ ∃ i j, x = .str i ∧ y = .str j ∧ Q (.bl (q i.cps.toList j.cps.toList)) H
theorem sim_cmp {p : Int → Int → Bool} {q : List Nat → List Nat → Bool} : SimR K cl (rCmpA p q) (oCmp p q) := by
  intro x y a b σ H Q ra rb po
  unfold oCmp at po
  split at po
  · obtain rfl := rp_int ra; obtain rfl := rp_int rb
    exact .inl ⟨_, _, rfl, rfl, po _ H (Same.refl H) (rpb _) (fresh_no rfl)⟩
  · obtain rfl := rp_str ra; obtain rfl := rp_str rb
    refine .inr ⟨_, _, rfl, rfl, ?_⟩
    rw [S_list, S_list]
    exact po _ H (Same.refl H) (rpb _) (fresh_no rfl)
  · exact po.elim
abbrev oLt := oCmp (fun i j => decide (i < j)) (fun x y => decide (x < y))
abbrev oLe := oCmp (fun i j => decide (i ≤ j)) (fun x y => !decide (y < x))
abbrev oGt := oCmp (fun i j => decide (j < i)) (fun x y => decide (y < x))
abbrev oGe := oCmp (fun i j => decide (j ≤ i)) (fun x y => !decide (x < y))
theorem or_lt {X : Cx} : OpR X (compareOp .Lt) (rCmpA (fun i j => decide (i < j)) (fun x y => decide (x < y))) := OpR.or op_lt op_lt_str
theorem or_le {X : Cx} : OpR X (compareOp .LtE) (rCmpA (fun i j => decide (i ≤ j)) (fun x y => !decide (y < x))) := OpR.or op_le op_le_str
theorem or_gt {X : Cx} : OpR X (compareOp .Gt) (rCmpA (fun i j => decide (j < i)) (fun x y => decide (y < x))) := OpR.or op_gt op_gt_str
theorem or_ge {X : Cx} : OpR X (compareOp .GtE) (rCmpA (fun i j => decide (j ≤ i)) (fun x y => !decide (x < y))) := OpR.or op_ge op_ge_str
/-! ### == and != -/
mutual
def toPy : D → PyData
  | .none => .none
  | .bool b => .bool b
  | .int i => .int i
  | .str l => .str (S l)
  | .list l => .list (toPyAll l)
  | .tuple l => .tuple (toPyAll l)
  | .dicK _ _ => .dict []
  | .dicT _ _ => .dict []
  | .scr _ => .dict []
def toPyAll : List D → List PyData
  | [] => []
  | d :: r => toPy d :: toPyAll r
end
/-! data that == tells apart at any depth (to n) -/
mutual
def shp : Nat → D → Bool
  | _, .none | _, .bool _ | _, .int _ => true
  | _, .str l => l.all (· < 0x110000)
  | 0, .list _ | 0, .tuple _ => false
  | n + 1, .list l => shpAll n l
  | n + 1, .tuple l => shpAll n l
  | _, .dicK _ _ | _, .dicT _ _ | _, .scr _ => false
def shpAll : Nat → List D → Bool
  | _, [] => true
  | n, d :: r => shp n d && shpAll n r
end
end
end DL
namespace DL
open PySem L2
section
variable {K : Fg} {cl : Nat → Addr}
mutual
theorem Rp.dp {H : Hp} : ∀ (n : Nat) (d : D) (v : V), shp n d = true → Rp K H d v → Dp K H v (toPy d)
  | _, .none, _, _, h => by obtain rfl := rp_non h; unfold toPy; exact .non
  | _, .bool b, _, _, h => by obtain rfl := rp_bl h; unfold toPy; exact .bl b
  | _, .int b, _, _, h => by obtain rfl := rp_int h; unfold toPy; exact .int b
  | _, .str b, _, _, h => by obtain rfl := rp_str h; unfold toPy; exact .str _
  | 0, .list l, _, s, _ => by unfold shp at s; cases s
  | 0, .tuple l, _, s, _ => by unfold shp at s; cases s
  | n + 1, .list l, _, s, h => by
    obtain ⟨a, xs, rfl, ha, hx⟩ := rp_list h
    unfold shp at s
    unfold toPy
    exact .lst (Or.inl (Or.inl ha)) (RpAll.dp n l xs s hx)
  | n + 1, .tuple l, _, s, h => by
    obtain ⟨a, xs, rfl, ha, hx⟩ := rp_tup h
    unfold shp at s
    unfold toPy
    exact .tup ha (RpAll.dp n l xs s hx)
  | _, .dicK _ _, _, s, _ => by unfold shp at s; cases s
  | _, .dicT _ _, _, s, _ => by unfold shp at s; cases s
  | _, .scr _, _, s, _ => by unfold shp at s; cases s
theorem RpAll.dp {H : Hp} : ∀ (n : Nat) (ds : List D) (vs : List V), shpAll n ds = true → RpAll K H ds vs → DpAll K H vs (toPyAll ds)
  | _, [], _, _, h => by unfold RpAll at h; subst h; unfold toPyAll; exact .nil
  | n, d :: ds, _, s, h => by
    unfold RpAll at h
    obtain ⟨v, r, rfl, h1, h2⟩ := h
    unfold shpAll at s
    rw [Bool.and_eq_true] at s
    unfold toPyAll
    exact .cons (Rp.dp n d v s.1 h1) (RpAll.dp n ds r s.2 h2)
end
mutual
theorem shp_lay : ∀ (n : Nat) (d : D), shp n d = true → (toPy d).canLay0 = true ∧ (toPy d).depth ≤ n
  | _, .none, _ => by unfold toPy PyData.canLay0 PyData.depth; exact ⟨rfl, Nat.zero_le _⟩
  | _, .bool b, _ => by unfold toPy PyData.canLay0 PyData.depth; exact ⟨rfl, Nat.zero_le _⟩
  | _, .int b, _ => by unfold toPy PyData.canLay0 PyData.depth; exact ⟨rfl, Nat.zero_le _⟩
  | _, .str b, s => by
    unfold shp at s
    unfold toPy PyData.canLay0 PyData.depth
    refine ⟨?_, Nat.zero_le _⟩
    unfold PyData.strOk S
    simpa using s
  | 0, .list l, s => by unfold shp at s; cases s
  | 0, .tuple l, s => by unfold shp at s; cases s
  | n + 1, .list l, s => by
    unfold shp at s
    have ih := shp_layAll n l s
    unfold toPy PyData.canLay0 PyData.depth
    exact ⟨ih.1, Nat.succ_le_succ ih.2⟩
  | n + 1, .tuple l, s => by
    unfold shp at s
    have ih := shp_layAll n l s
    unfold toPy PyData.canLay0 PyData.depth
    exact ⟨ih.1, Nat.succ_le_succ ih.2⟩
  | _, .dicK _ _, s => by unfold shp at s; cases s
  | _, .dicT _ _, s => by unfold shp at s; cases s
  | _, .scr _, s => by unfold shp at s; cases s
theorem shp_layAll : ∀ (n : Nat) (ds : List D), shpAll n ds = true → PyData.canLayAll0 (toPyAll ds) = true ∧ PyData.depthAll (toPyAll ds) ≤ n
  | _, [], _ => by unfold toPyAll PyData.canLayAll0 PyData.depthAll; exact ⟨rfl, Nat.zero_le _⟩
  | n, d :: ds, s => by
    unfold shpAll at s
    rw [Bool.and_eq_true] at s
    have h1 := shp_lay n d s.1
    have h2 := shp_layAll n ds s.2
    unfold toPyAll PyData.canLayAll0 PyData.depthAll
    rw [h1.1, h2.1]
    exact ⟨rfl, Nat.max_le.mpr ⟨h1.2, h2.2⟩⟩
end
theorem shp_shaped {d : D} (h : shp 10 d = true) : SeqAt.shaped (toPy d) = true := by
  have := shp_lay 10 d h
  unfold SeqAt.shaped
  rw [this.1, Bool.true_and]
  exact decide_eq_true (Nat.le_trans this.2 (by decide))
/-- == -/
def deq (a b : D) : Bool := PyData.eqv (toPy a) (toPy b)
def oEqB : D → D → Res Bool
  | .int i, .int j => .ok (decide (i = j))
  | .str x, .str y => .ok (decide (x = y))
  | .bool x, .bool y => .ok (decide (x = y))
  | .none, .none => .ok true
  | .none, .int _ => .ok false
  | .int _, .none => .ok false
  | .none, .str _ => .ok false
  | .str _, .none => .ok false
  | .int _, .str _ => .ok false
  | .str _, .int _ => .ok false
  | a, b => Res.need (shp 10 a = true ∧ shp 10 b = true) (.ok (deq a b))
def oEq (a b : D) : Res D := (oEqB a b).bind fun c => .ok (.bool c)
def oNe (a b : D) : Res D := (oEqB a b).bind fun c => .ok (.bool (!c))
theorem oEqB_ne (a b : D) (c : Nat) : oEqB a b ≠ .exc c := by
  unfold oEqB
  split <;> (try (intro z; cases z; done))
  unfold Res.need
  split <;> (intro z; cases z)
theorem oEq_ne (a b : D) : noExc (oEq a b) := fun c => by
  unfold oEq
  cases h : oEqB a b with
  | ok r => intro z; cases z
  | exc k => exact (oEqB_ne a b k h).elim
  | stuck => intro z; cases z
theorem oNe_ne (a b : D) : noExc (oNe a b) := fun c => by
  unfold oNe
  cases h : oEqB a b with
  | ok r => intro z; cases z
  | exc k => exact (oEqB_ne a b k h).elim
  | stuck => intro z; cases z
def rEqA (K : Fg) (n : Bool) : R2 := fun x y H Q => (scal x y = true ∧ Q (.bl (if n then !decide (x = y) else decide (x = y))) H) ∨ ∃ d e, Dp K H x d ∧ Dp K H y e ∧ SeqAt.shaped d = true ∧ SeqAt.shaped e = true ∧ Q (.bl (if n then !PyData.eqv d e else PyData.eqv d e)) H
theorem or_eq {X : Cx} (hu : X.A.units + 64 < cLine) : OpR X (compareOp .Eq) (rEqA X.K false) := OpR.or op_eq (op_eqD hu)
theorem or_ne {X : Cx} (hu : X.A.units + 64 < cLine) : OpR X (compareOp .NotEq) (rEqA X.K true) := OpR.or op_ne (op_neD hu)
theorem sim_eqB {n : Bool} : SimR K cl (rEqA K n) (fun a b => (oEqB a b).bind fun c => .ok (.bool (if n then !c else c))) := by
  intro x y a b σ H Q ra rb po
  change PostF K cl _ σ H ((oEqB a b).bind _) Q at po
  unfold oEqB at po
  split at po
  · obtain rfl := rp_int ra; obtain rfl := rp_int rb
    refine .inl ⟨rfl, ?_⟩
    have h := po _ H (Same.refl H) (rpb _) (fresh_no rfl)
    simpa using h
  · rename_i p q
    obtain rfl := rp_str ra; obtain rfl := rp_str rb
    refine .inl ⟨rfl, ?_⟩
    have h := po _ H (Same.refl H) (rpb _) (fresh_no rfl)
    have e : decide (V.str (S p) = V.str (S q)) = decide (p = q) := by
      by_cases hpq : p = q
      · rw [hpq, decide_eq_true rfl, decide_eq_true rfl]
      · rw [decide_eq_false hpq, decide_eq_false (fun z => hpq (S_inj (V.str.inj z)))]
    rw [e]
    exact h
  · obtain rfl := rp_bl ra; obtain rfl := rp_bl rb
    refine .inl ⟨rfl, ?_⟩
    have h := po _ H (Same.refl H) (rpb _) (fresh_no rfl)
    simpa using h
  · obtain rfl := rp_non ra; obtain rfl := rp_non rb
    exact .inl ⟨rfl, by have h := po _ H (Same.refl H) (rpb _) (fresh_no rfl); simpa using h⟩
  · obtain rfl := rp_non ra; obtain rfl := rp_int rb
    exact .inl ⟨rfl, by have h := po _ H (Same.refl H) (rpb _) (fresh_no rfl); simpa using h⟩
  · obtain rfl := rp_int ra; obtain rfl := rp_non rb
    exact .inl ⟨rfl, by have h := po _ H (Same.refl H) (rpb _) (fresh_no rfl); simpa using h⟩
  · obtain rfl := rp_non ra; obtain rfl := rp_str rb
    exact .inl ⟨rfl, by have h := po _ H (Same.refl H) (rpb _) (fresh_no rfl); simpa using h⟩
  · obtain rfl := rp_str ra; obtain rfl := rp_non rb
    exact .inl ⟨rfl, by have h := po _ H (Same.refl H) (rpb _) (fresh_no rfl); simpa using h⟩
  · obtain rfl := rp_int ra; obtain rfl := rp_str rb
    exact .inl ⟨rfl, by have h := po _ H (Same.refl H) (rpb _) (fresh_no rfl); simpa using h⟩
  · obtain rfl := rp_str ra; obtain rfl := rp_int rb
    exact .inl ⟨rfl, by have h := po _ H (Same.refl H) (rpb _) (fresh_no rfl); simpa using h⟩
  · unfold Res.need at po
    split at po
    · rename_i hc
      exact .inr ⟨_, _, Rp.dp 10 _ _ hc.1 ra, Rp.dp 10 _ _ hc.2 rb, shp_shaped hc.1, shp_shaped hc.2, po _ H (Same.refl H) (rpb _) (fresh_no rfl)⟩
    · exact po.elim
theorem sim_eq : SimR K cl (rEqA K false) oEq := fun x y a b σ H Q ra rb po => sim_eqB x y a b σ H Q ra rb po
theorem sim_ne : SimR K cl (rEqA K true) oNe := fun x y a b σ H Q ra rb po => sim_eqB x y a b σ H Q ra rb po
/-! ### in, not in -/
def oInB : D → D → Res Bool
  | .str [c], .str z => .ok (decide (c ∈ z))
  | _, _ => .stuck
def oIn (a b : D) : Res D := (oInB a b).bind fun c => .ok (.bool c)
def oNi (a b : D) : Res D := (oInB a b).bind fun c => .ok (.bool (!c))
theorem oInB_ne (a b : D) (c : Nat) : oInB a b ≠ .exc c := by
  unfold oInB
  split <;> (intro z; cases z)
theorem oIn_ne (a b : D) : noExc (oIn a b) := fun c => by
  unfold oIn
  cases h : oInB a b with
  | ok r => intro z; cases z
  | exc k => exact (oInB_ne a b k h).elim
  | stuck => intro z; cases z
theorem oNi_ne (a b : D) : noExc (oNi a b) := fun c => by
  unfold oNi
  cases h : oInB a b with
  | ok r => intro z; cases z
  | exc k => exact (oInB_ne a b k h).elim
  | stuck => intro z; cases z
def rInA (n : Bool) : R2 := fun x y H Q => ∃ (c : Nat) (z : Str), x = .str ⟨#[c]⟩ ∧ y = .str z ∧ Q (.bl (if n then !decide (c ∈ z.cps.toList) else decide (c ∈ z.cps.toList))) H
theorem or_in {X : Cx} : OpR X (compareOp .In) (rInA false) := op_in_sign
theorem or_ni {X : Cx} : OpR X (compareOp .NotIn) (rInA true) := op_notIn_sign
theorem sim_inB {n : Bool} : SimR K cl (rInA n) (fun a b => (oInB a b).bind fun c => .ok (.bool (if n then !c else c))) := by
  intro x y a b σ H Q ra rb po
  change PostF K cl _ σ H ((oInB a b).bind _) Q at po
  unfold oInB at po
  split at po
  · obtain rfl := rp_str ra; obtain rfl := rp_str rb
    exact ⟨_, _, rfl, rfl, by rw [S_list]; exact po _ H (Same.refl H) (rpb _) (fresh_no rfl)⟩
  · exact po.elim
theorem sim_in : SimR K cl (rInA false) oIn := fun x y a b σ H Q ra rb po => sim_inB x y a b σ H Q ra rb po
theorem sim_ni : SimR K cl (rInA true) oNi := fun x y a b σ H Q ra rb po => sim_inB x y a b σ H Q ra rb po
/-! ### x[i] -/
def ofO (o : Option D) : Res D := match o with
  | some d => if isBox d then .stuck else .ok d
  | none => .stuck
theorem ofO_ne (o : Option D) : noExc (ofO o) := by
  unfold ofO
  split
  · split
    · exact stuck_noExc
    · exact ok_noExc
  · exact stuck_noExc
def oIx : D → D → Res D
  | .tuple l, .int i => ofO (atI l i)
  | .list l, .int i => ofO (atI l i)
  | .str l, .int i => Res.need (l.length ≤ big) (ofO ((atI l i).map fun c => .str [c]))
  | .scr l, .int i => ofO ((atI l i).map fun c => .int c)
  | _, _ => .stuck
theorem oIx_ne (a b : D) : noExc (oIx a b) := by
  unfold oIx
  split
  · exact ofO_ne _
  · exact ofO_ne _
  · exact need_noExc (ofO_ne _)
  · exact ofO_ne _
  · exact stuck_noExc
theorem RpAll.atI {H : Hp} {l : List D} {xs : List V} {i : Int} {d : D} (h : RpAll K H l xs) (e : atI l i = some d) : ∃ v, L2.atI xs i = some v ∧ Rp K H d v := by
  unfold L2.atI at e ⊢
  rw [h.length]
  cases r : ixN l.length i with
  | none => rw [r] at e; cases e
  | some j =>
    rw [r] at e
    obtain ⟨v, h1, h2⟩ := h.get' (i := j) e
    exact ⟨v, h1, h2⟩
theorem ofO_on {o : Option D} {k : D → Prop} {e : Nat → Prop} (h : (ofO o).on k e) : ∃ d, o = some d ∧ isBox d = false ∧ k d := by
  unfold ofO at h
  split at h
  · rename_i d
    cases b : isBox d with
    | true => rw [b] at h; exact h.elim
    | false => rw [b] at h; exact ⟨d, rfl, b, h⟩
  · exact h.elim
theorem sim_ix : SimR K cl (rIx K) oIx := by
  intro x y a b σ H Q ra rb po
  unfold oIx at po
  split at po
  · obtain ⟨p, xs, rfl, hp, hx⟩ := rp_tup ra; obtain rfl := rp_int rb
    obtain ⟨d, e, nb, po⟩ := ofO_on po
    obtain ⟨v, h1, h2⟩ := hx.atI e
    exact .inr (.inl ⟨p, xs, _, v, rfl, rfl, hp, h1, po _ H (Same.refl H) h2 (fresh_no nb)⟩)
  · obtain ⟨p, xs, rfl, hp, hx⟩ := rp_list ra; obtain rfl := rp_int rb
    obtain ⟨d, e, nb, po⟩ := ofO_on po
    obtain ⟨v, h1, h2⟩ := hx.atI e
    exact .inl ⟨p, xs, _, v, rfl, rfl, Or.inl (Or.inl hp), h1, po _ H (Same.refl H) h2 (fresh_no nb)⟩
  · rename_i l i
    obtain rfl := rp_str ra; obtain rfl := rp_int rb
    obtain ⟨hc, po⟩ := need_on po
    obtain ⟨d, e, nb, po⟩ := ofO_on po
    cases e2 : L2.atI l i with
    | none => rw [e2] at e; cases e
    | some c =>
      rw [e2] at e
      cases e
      refine .inr (.inr ⟨S l, i, c, rfl, rfl, by rw [S_len]; exact big_le hc, by rw [S_list]; exact e2, ?_⟩)
      exact po _ H (Same.refl H) (rps _) (fresh_no rfl)
  · rename_i l i
    unfold Rp at ra
    obtain ⟨p, rfl, hp⟩ := ra
    obtain rfl := rp_int rb
    obtain ⟨d, e, nb, po⟩ := ofO_on po
    cases e2 : L2.atI l i with
    | none => rw [e2] at e; cases e
    | some c =>
      rw [e2] at e
      cases e
      refine .inl ⟨p, _, i, .int c, rfl, rfl, hp, ?_, po _ H (Same.refl H) (rpi _) (fresh_no rfl)⟩
      unfold L2.atI at e2 ⊢
      rw [List.length_map]
      cases r : ixN l.length i with
      | none => rw [r] at e2; cases e2
      | some j =>
        rw [r] at e2
        have e3 : l[j]? = some c := e2
        show (l.map V.int)[j]? = some (V.int c)
        rw [List.getElem?_map, e3]
        rfl
  · exact po.elim
end
section
variable {X : Cx} {cl : Nat → Addr} {W : WX}
theorem q_add {a b : Expr} {pos : Pos} {ta tb : TE} {f h : Dv → Res D} (ha : QE X cl W a ta f) (hb : QE X cl W b tb h) : QF X cl W (.BinOp a .Add b pos) (tOp (rAddA X.K) ta tb) (d2 oAdd f h) := q_op or_add sim_add oAdd_ne ha hb
theorem q_sub {a b : Expr} {pos : Pos} {ta tb : TE} {f h : Dv → Res D} (ha : QE X cl W a ta f) (hb : QE X cl W b tb h) : QF X cl W (.BinOp a .Sub b pos) (tOp (rI0 fun i j => .int (i - j)) ta tb) (d2 oSub f h) := q_op op_sub sim_sub oSub_ne ha hb
theorem q_mul {a b : Expr} {pos : Pos} {ta tb : TE} {f h : Dv → Res D} (ha : QE X cl W a ta f) (hb : QE X cl W b tb h) : QF X cl W (.BinOp a .Mult b pos) (tOp rMulA ta tb) (d2 oMul f h) := q_op or_mul sim_mul oMul_ne ha hb
theorem q_mod {a b : Expr} {pos : Pos} {ta tb : TE} {f h : Dv → Res D} (ha : QE X cl W a ta f) (hb : QE X cl W b tb h) : QF X cl W (.BinOp a .Mod b pos) (tOp (rI (fun _ j => 0 < j) fun i j => .int (i % j)) ta tb) (d2 oMod f h) := q_op op_mod sim_mod oMod_ne ha hb
theorem q_div {a b : Expr} {pos : Pos} {ta tb : TE} {f h : Dv → Res D} (ha : QE X cl W a ta f) (hb : QE X cl W b tb h) : QF X cl W (.BinOp a .FloorDiv b pos) (tOp (rI CDiv fun i j => .int (i / j)) ta tb) (d2 oDiv f h) := q_op op_fdiv sim_div oDiv_ne ha hb
theorem q_lt {a b : Expr} {pos : Pos} {ta tb : TE} {f h : Dv → Res D} (ha : QE X cl W a ta f) (hb : QE X cl W b tb h) : QF X cl W (.Compare a [.Lt] [b] pos) (tOp (rCmpA (fun i j => decide (i < j)) (fun x y => decide (x < y))) ta tb) (d2 oLt f h) := q_cmp or_lt sim_cmp (oCmp_ne _ _) ha hb (nomark _)
theorem q_le {a b : Expr} {pos : Pos} {ta tb : TE} {f h : Dv → Res D} (ha : QE X cl W a ta f) (hb : QE X cl W b tb h) : QF X cl W (.Compare a [.LtE] [b] pos) (tOp (rCmpA (fun i j => decide (i ≤ j)) (fun x y => !decide (y < x))) ta tb) (d2 oLe f h) := q_cmp or_le sim_cmp (oCmp_ne _ _) ha hb (nomark _)
theorem q_gt {a b : Expr} {pos : Pos} {ta tb : TE} {f h : Dv → Res D} (ha : QE X cl W a ta f) (hb : QE X cl W b tb h) : QF X cl W (.Compare a [.Gt] [b] pos) (tOp (rCmpA (fun i j => decide (j < i)) (fun x y => decide (y < x))) ta tb) (d2 oGt f h) := q_cmp or_gt sim_cmp (oCmp_ne _ _) ha hb (nomark _)
theorem q_ge {a b : Expr} {pos : Pos} {ta tb : TE} {f h : Dv → Res D} (ha : QE X cl W a ta f) (hb : QE X cl W b tb h) : QF X cl W (.Compare a [.GtE] [b] pos) (tOp (rCmpA (fun i j => decide (j ≤ i)) (fun x y => !decide (x < y))) ta tb) (d2 oGe f h) := q_cmp or_ge sim_cmp (oCmp_ne _ _) ha hb (nomark _)
theorem q_eq {a b : Expr} {pos : Pos} {ta tb : TE} {f h : Dv → Res D} (hu : X.A.units + 64 < cLine) (ha : QE X cl W a ta f) (hb : QE X cl W b tb h) : QF X cl W (.Compare a [.Eq] [b] pos) (tOp (rEqA X.K false) ta tb) (d2 oEq f h) := q_cmp (or_eq hu) sim_eq oEq_ne ha hb (nomark _)
theorem q_ne {a b : Expr} {pos : Pos} {ta tb : TE} {f h : Dv → Res D} (hu : X.A.units + 64 < cLine) (ha : QE X cl W a ta f) (hb : QE X cl W b tb h) : QF X cl W (.Compare a [.NotEq] [b] pos) (tOp (rEqA X.K true) ta tb) (d2 oNe f h) := q_cmp (or_ne hu) sim_ne oNe_ne ha hb (nomark _)
theorem q_in {a b : Expr} {pos : Pos} {ta tb : TE} {f h : Dv → Res D} (ha : QE X cl W a ta f) (hb : QE X cl W b tb h) (hm : behindInMarks .In b = false := by rfl) : QF X cl W (.Compare a [.In] [b] pos) (tOp (rInA false) ta tb) (d2 oIn f h) := q_cmp or_in sim_in oIn_ne ha hb hm
theorem q_ni {a b : Expr} {pos : Pos} {ta tb : TE} {f h : Dv → Res D} (ha : QE X cl W a ta f) (hb : QE X cl W b tb h) (hm : behindInMarks .NotIn b = false := by rfl) : QF X cl W (.Compare a [.NotIn] [b] pos) (tOp (rInA true) ta tb) (d2 oNi f h) := q_cmp or_ni sim_ni oNi_ne ha hb hm
theorem q_sub_ {a b : Expr} {pos : Pos} {ta tb : TE} {f h : Dv → Res D} (ha : QE X cl W a ta f) (hb : QE X cl W b tb h) (hs : PlainIx b := by exact fun _ _ => rfl) : QF X cl W (.Subscript a b pos) (tOp (rIx X.K) ta tb) (d2 oIx f h) := q_ix ix_seq sim_ix oIx_ne ha hb hs
theorem t_lt {a b : Expr} {pos : Pos} {ta tb : TE} {f h : Dv → Res D} (ha : QE X cl W a ta f) (hb : QE X cl W b tb h) : QT X cl W (.Compare a [.Lt] [b] pos) (tTest (tOp (rCmpA (fun i j => decide (i < j)) (fun x y => decide (x < y))) ta tb)) (dB (d2 oLt f h)) := qt_cmp or_lt sim_cmp (oCmp_ne _ _) ha hb (nomark _)
theorem t_le {a b : Expr} {pos : Pos} {ta tb : TE} {f h : Dv → Res D} (ha : QE X cl W a ta f) (hb : QE X cl W b tb h) : QT X cl W (.Compare a [.LtE] [b] pos) (tTest (tOp (rCmpA (fun i j => decide (i ≤ j)) (fun x y => !decide (y < x))) ta tb)) (dB (d2 oLe f h)) := qt_cmp or_le sim_cmp (oCmp_ne _ _) ha hb (nomark _)
theorem t_gt {a b : Expr} {pos : Pos} {ta tb : TE} {f h : Dv → Res D} (ha : QE X cl W a ta f) (hb : QE X cl W b tb h) : QT X cl W (.Compare a [.Gt] [b] pos) (tTest (tOp (rCmpA (fun i j => decide (j < i)) (fun x y => decide (y < x))) ta tb)) (dB (d2 oGt f h)) := qt_cmp or_gt sim_cmp (oCmp_ne _ _) ha hb (nomark _)
theorem t_ge {a b : Expr} {pos : Pos} {ta tb : TE} {f h : Dv → Res D} (ha : QE X cl W a ta f) (hb : QE X cl W b tb h) : QT X cl W (.Compare a [.GtE] [b] pos) (tTest (tOp (rCmpA (fun i j => decide (j ≤ i)) (fun x y => !decide (x < y))) ta tb)) (dB (d2 oGe f h)) := qt_cmp or_ge sim_cmp (oCmp_ne _ _) ha hb (nomark _)
theorem t_eq {a b : Expr} {pos : Pos} {ta tb : TE} {f h : Dv → Res D} (hu : X.A.units + 64 < cLine) (ha : QE X cl W a ta f) (hb : QE X cl W b tb h) : QT X cl W (.Compare a [.Eq] [b] pos) (tTest (tOp (rEqA X.K false) ta tb)) (dB (d2 oEq f h)) := qt_cmp (or_eq hu) sim_eq oEq_ne ha hb (nomark _)
theorem t_ne {a b : Expr} {pos : Pos} {ta tb : TE} {f h : Dv → Res D} (hu : X.A.units + 64 < cLine) (ha : QE X cl W a ta f) (hb : QE X cl W b tb h) : QT X cl W (.Compare a [.NotEq] [b] pos) (tTest (tOp (rEqA X.K true) ta tb)) (dB (d2 oNe f h)) := qt_cmp (or_ne hu) sim_ne oNe_ne ha hb (nomark _)
theorem t_in {a b : Expr} {pos : Pos} {ta tb : TE} {f h : Dv → Res D} (ha : QE X cl W a ta f) (hb : QE X cl W b tb h) (hm : behindInMarks .In b = false := by rfl) : QT X cl W (.Compare a [.In] [b] pos) (tTest (tOp (rInA false) ta tb)) (dB (d2 oIn f h)) := qt_cmp or_in sim_in oIn_ne ha hb hm
theorem t_ni {a b : Expr} {pos : Pos} {ta tb : TE} {f h : Dv → Res D} (ha : QE X cl W a ta f) (hb : QE X cl W b tb h) (hm : behindInMarks .NotIn b = false := by rfl) : QT X cl W (.Compare a [.NotIn] [b] pos) (tTest (tOp (rInA true) ta tb)) (dB (d2 oNi f h)) := qt_cmp or_ni sim_ni oNi_ne ha hb hm
end
end DL
namespace DL
open PySem L2
section
variable {X : Cx} {cl : Nat → Addr} {W : WX}
theorem SimT.chain {K : Fg} {te : TT} {f : Dv → Res Bool} {β : Type} {k : Bool → Res β} {δ : Dv} {σ : L2.St} {H : Hp} {Q : Bool → Hp → Prop} {P : Hp → Res β → Prop} (s : SimT K cl W te f) (en : EnvD K H σ δ)
    (po : P H ((f δ).bind k)) (hx : ∀ c, P H (.exc c) → ∀ H', Same H H' → W (.ref (cl c)) none σ H') (hst : ∀ H, ¬ P H .stuck)
    (hk : ∀ d H', f δ = .ok d → Same H H' → P H (k d) → Q d H') : te σ H Q := by
  refine s δ σ H Q en ?_
  cases r : f δ with
  | ok d => rw [r, Res.ok_bind] at po; exact fun H' sm => hk d H' r sm po
  | exc c => rw [r] at po; exact hx c po
  | stuck => rw [r] at po; exact (hst H po).elim
theorem SimA.chain {K : Fg} {te : TA} {f : Dv → Res (List D)} {β : Type} {k : List D → Res β} {δ : Dv} {σ : L2.St} {H : Hp} {Q : List V → Hp → Prop} {P : Hp → Res β → Prop} (s : SimA K cl W te f) (en : EnvD K H σ δ)
    (po : P H ((f δ).bind k)) (hx : ∀ c, P H (.exc c) → ∀ H', Same H H' → W (.ref (cl c)) none σ H') (hst : ∀ H, ¬ P H .stuck)
    (hk : ∀ d vs H', f δ = .ok d → Same H H' → RpAll K H' d vs → P H (k d) → Q vs H') : te σ H Q := by
  refine s δ σ H Q en ?_
  cases r : f δ with
  | ok d => rw [r, Res.ok_bind] at po; exact fun vs H' sm q => hk d vs H' r sm q po
  | exc c => rw [r] at po; exact hx c po
  | stuck => rw [r] at po; exact (hst H po).elim
/-! ### tests -/
def bAnd (f g : Dv → Res Bool) : Dv → Res Bool := fun δ => (f δ).bind fun c => if c = true then g δ else .ok false
def bOr (f g : Dv → Res Bool) : Dv → Res Bool := fun δ => (f δ).bind fun c => if c = true then .ok true else g δ
def bNot (f : Dv → Res Bool) : Dv → Res Bool := fun δ => (f δ).bind fun c => .ok (!c)
variable {a b c e : Expr} {es rest : List Expr} {pos : Pos} {ta tb : TE} {t u : TT} {f h : Dv → Res D} {g k : Dv → Res Bool}
theorem w_and1 (ha : QT X cl W a t g) : QW X cl W (.BoolOp .And [a] pos) t g := ⟨pw_and1 ha.pe, ha.sim⟩
theorem w_or1 (ha : QT X cl W a t g) : QW X cl W (.BoolOp .Or [a] pos) t g := ⟨pw_or1 ha.pe, ha.sim⟩
theorem w_and (ha : QT X cl W a t g) (hb : QW X cl W (.BoolOp .And (b :: rest) pos) u k) : QW X cl W (.BoolOp .And (a :: b :: rest) pos) (tAnd t u) (bAnd g k) := by
  refine ⟨pw_and ha.pe hb.pe, fun δ σ H Q en po => ?_⟩
  show t σ H _
  refine ha.sim.chain (P := fun H r => PostB cl W σ H r Q) en po (fun c h => h) (fun H h => h) fun d H1 _ s1 p1 => ?_
  cases d with
  | true => exact hb.sim δ σ H1 Q (en.mono s1) (PostB.weak s1 p1)
  | false => exact p1 H1 s1
theorem w_or (ha : QT X cl W a t g) (hb : QW X cl W (.BoolOp .Or (b :: rest) pos) u k) : QW X cl W (.BoolOp .Or (a :: b :: rest) pos) (tOr t u) (bOr g k) := by
  refine ⟨pw_or ha.pe hb.pe, fun δ σ H Q en po => ?_⟩
  show t σ H _
  refine ha.sim.chain (P := fun H r => PostB cl W σ H r Q) en po (fun c h => h) (fun H h => h) fun d H1 _ s1 p1 => ?_
  cases d with
  | true => exact p1 H1 s1
  | false => exact hb.sim δ σ H1 Q (en.mono s1) (PostB.weak s1 p1)
theorem t_not (ha : QT X cl W a t g) : QT X cl W (.UnaryOp .Not a pos) (tNot t) (bNot g) := by
  refine ⟨pt_not ha.pe, fun δ σ H Q en po => ?_⟩
  show t σ H _
  exact ha.sim.chain (P := fun H r => PostB cl W σ H r Q) en po (fun c h => h) (fun H h => h) fun d H1 _ s1 p1 => p1 H1 s1
/-- a value's truth -/
def truth : D → Res Bool
  | .none => .ok false
  | .bool b => .ok b
  | .int i => .ok (i != 0)
  | .str l => Res.need (l.length ≤ big) (.ok (!l.isEmpty))
  | .list l => .ok (!l.isEmpty)
  | .tuple l => .ok (!l.isEmpty)
  | .dicK ks _ => .ok (!ks.isEmpty)
  | _ => .stuck
def dT (f : Dv → Res D) : Dv → Res Bool := fun δ => (f δ).bind truth
theorem emp_len {α β : Type} {l : List α} {m : List β} (h : m.length = l.length) : (!m.isEmpty) = !l.isEmpty := by
  cases l <;> cases m <;> simp_all
theorem truth_ok {K : Fg} {H : Hp} {d : D} {v : V} {r : Bool} (hr : Rp K H d v) (ht : truth d = .ok r) : TruV K v H r := by
  unfold truth at ht
  split at ht
  · obtain rfl := rp_non hr; cases ht; rfl
  · obtain rfl := rp_bl hr; cases ht; rfl
  · obtain rfl := rp_int hr; cases ht; rfl
  · rename_i l
    obtain rfl := rp_str hr
    unfold Res.need at ht
    split at ht
    · rename_i hc
      cases ht
      refine ⟨by rw [S_len]; exact big_le hc, ?_⟩
      rw [S_len]
      cases l with
      | nil => rfl
      | cons a l =>
        show true = (((l.length + 1 : Nat) : Int) != 0)
        symm
        rw [bne_iff_ne]
        omega
    · cases ht
  · obtain ⟨p, xs, rfl, hp, hx⟩ := rp_list hr
    cases ht
    exact .inl ⟨xs, Or.inl (Or.inl hp), (emp_len hx.length).symm⟩
  · obtain ⟨p, xs, rfl, hp, hx⟩ := rp_tup hr
    cases ht
    exact .inr (.inl ⟨xs, hp, (emp_len hx.length).symm⟩)
  · unfold Rp at hr
    obtain ⟨p, kvs, rfl, hp, hk, _⟩ := hr
    cases ht
    refine .inr (.inr ⟨kvs, hp, ?_⟩)
    rw [← hk]
    exact (emp_len (by rw [List.length_map])).symm
  · cases ht
theorem truth_ne (d : D) (c : Nat) : truth d ≠ .exc c := by
  unfold truth
  split <;> (try (intro z; cases z; done))
  unfold Res.need
  split <;> (intro z; cases z)
theorem t_val (ha : QE X cl W a ta f) (he : ∀ whole, isTrue a X.env whole = (do let v ← whole; standAt a.pos; holding [v] (truthy v)) := by intro _; rfl) : QT X cl W a (fun σ H Q => ta σ H fun x H' => ∃ k, TruV X.K x H' k ∧ Q k H') (dT f) := by
  refine ⟨pt_truth ha.pe he, fun δ σ H Q en po => ?_⟩
  show ta σ H _
  refine ha.sim.chain (P := fun H r => PostB cl W σ H r Q) en po (fun c h => h) (fun H h => h) fun d v H1 _ s1 r1 p1 => ?_
  cases q : truth d with
  | ok r => rw [q] at p1; exact ⟨r, truth_ok r1 q, p1 H1 s1⟩
  | exc c => exact (truth_ne d c q).elim
  | stuck => rw [q] at p1; exact p1.elim
/-! ### values by tests: c if t else d; not, and, or of truths -/
def dIf (g : Dv → Res Bool) (f h : Dv → Res D) : Dv → Res D := fun δ => (g δ).bind fun c => if c = true then f δ else h δ
theorem q_if (hc : QT X cl W c t g) (ha : QE X cl W a ta f) (hb : QE X cl W b tb h) : QE X cl W (.IfExp c a b pos) (tIf t ta tb) (dIf g f h) := by
  refine ⟨pe_ifExp hc.pe ha.pe hb.pe, fun δ σ H Q en po => ?_⟩
  show t σ H _
  refine hc.sim.chain (P := fun H r => PostE X.K cl W σ H r Q) en po (fun c h => h) (fun H h => h) fun d H1 _ s1 p1 => ?_
  cases d with
  | true => exact ha.sim δ σ H1 Q (en.mono s1) (PostE.weak s1 p1)
  | false => exact hb.sim δ σ H1 Q (en.mono s1) (PostE.weak s1 p1)
theorem f_if (hc : QT X cl W c t g) (ha : QF X cl W a ta f) (hb : QF X cl W b tb h) : QF X cl W (.IfExp c a b pos) (tIf t ta tb) (dIf g f h) := by
  refine ⟨pe_ifExp hc.pe ha.pe hb.pe, fun δ σ H Q en po => ?_⟩
  show t σ H _
  refine hc.sim.chain (P := fun H r => PostF X.K cl W σ H r Q) en po (fun c h => h) (fun H h => h) fun d H1 _ s1 p1 => ?_
  cases d with
  | true => exact ha.sim δ σ H1 Q (en.mono s1) (PostF.weak s1 p1)
  | false => exact hb.sim δ σ H1 Q (en.mono s1) (PostF.weak s1 p1)
def asB (d : D) : Res Bool := match d with
  | .bool b => .ok b
  | _ => .stuck
def dAndV (f h : Dv → Res D) : Dv → Res D := fun δ => (f δ).bind fun d => (asB d).bind fun c => if c = true then h δ else .ok (.bool false)
def dOrV (f h : Dv → Res D) : Dv → Res D := fun δ => (f δ).bind fun d => (asB d).bind fun c => if c = true then .ok (.bool true) else h δ
def dNotV (f : Dv → Res D) : Dv → Res D := fun δ => (f δ).bind fun d => (asB d).bind fun c => .ok (.bool (!c))
theorem v_one {op : BoolOp} (ha : QF X cl W a ta f) : QF X cl W (.BoolOp op [a] pos) ta f := ⟨pe_one ha.pe, ha.sim⟩
theorem v_and (ha : QE X cl W a ta f) (hb : QF X cl W (.BoolOp .And (b :: rest) pos) tb h) : QF X cl W (.BoolOp .And (a :: b :: rest) pos) (tAndV ta tb) (dAndV f h) := by
  refine ⟨pe_and ha.pe hb.pe, fun δ σ H Q en po => ?_⟩
  show ta σ H _
  refine ha.sim.chain (P := fun H r => PostF X.K cl W σ H r Q) en po (fun c h => h) (fun H h => h) fun d v H1 _ s1 r1 p1 => ?_
  cases d with
  | bool c =>
    obtain rfl := rp_bl r1
    refine ⟨c, rfl, ?_⟩
    cases c with
    | true => exact hb.sim δ σ H1 Q (en.mono s1) (PostF.weak s1 p1)
    | false => exact p1 _ H1 s1 (rpb _) (fresh_no rfl)
  | _ => exact p1.elim
theorem v_or (ha : QE X cl W a ta f) (hb : QF X cl W (.BoolOp .Or (b :: rest) pos) tb h) : QF X cl W (.BoolOp .Or (a :: b :: rest) pos) (tOrV ta tb) (dOrV f h) := by
  refine ⟨pe_or ha.pe hb.pe, fun δ σ H Q en po => ?_⟩
  show ta σ H _
  refine ha.sim.chain (P := fun H r => PostF X.K cl W σ H r Q) en po (fun c h => h) (fun H h => h) fun d v H1 _ s1 r1 p1 => ?_
  cases d with
  | bool c =>
    obtain rfl := rp_bl r1
    refine ⟨c, rfl, ?_⟩
    cases c with
    | true => exact p1 _ H1 s1 (rpb _) (fresh_no rfl)
    | false => exact hb.sim δ σ H1 Q (en.mono s1) (PostF.weak s1 p1)
  | _ => exact p1.elim
theorem v_not (ha : QE X cl W a ta f) : QF X cl W (.UnaryOp .Not a pos) (tNotV ta) (dNotV f) := by
  refine ⟨pe_not ha.pe, fun δ σ H Q en po => ?_⟩
  show ta σ H _
  refine ha.sim.chain (P := fun H r => PostF X.K cl W σ H r Q) en po (fun c h => h) (fun H h => h) fun d v H1 _ s1 r1 p1 => ?_
  cases d with
  | bool c =>
    obtain rfl := rp_bl r1
    exact ⟨c, rfl, p1 _ H1 s1 (rpb _) (fresh_no rfl)⟩
  | _ => exact p1.elim
/-- -x -/
def oNeg : D → Res D
  | .int i => .ok (.int (-i))
  | _ => .stuck
theorem q_neg (ha : QE X cl W a ta f) : QF X cl W (.UnaryOp .USub a pos) (tUn (rU fun i => .int (-i)) ta) (fun δ => (f δ).bind oNeg) := by
  refine ⟨pe_un un_neg ha.pe, fun δ σ H Q en po => ?_⟩
  show ta σ H _
  refine ha.sim.chain (P := fun H r => PostF X.K cl W σ H r Q) en po (fun c h => h) (fun H h => h) fun d v H1 _ s1 r1 p1 => ?_
  cases d with
  | int i =>
    obtain rfl := rp_int r1
    exact ⟨i, rfl, p1 _ H1 s1 (rpi _) (fresh_no rfl)⟩
  | _ => exact p1.elim
/-! ### chains a < b < c -/
def dChain (g g' : D → D → Res D) (f h l : Dv → Res D) : Dv → Res D := fun δ => (f δ).bind fun x => (h δ).bind fun y => (g x y).bind fun z => (asB z).bind fun k => if k = true then (l δ).bind fun w => g' y w else .ok (.bool false)
theorem chain_sim {tc : TE} {r r' : R2} {g0 g1 : D → D → Res D} {l : Dv → Res D} (sr : SimR X.K cl r g0) (sr' : SimR X.K cl r' g1) (ne : ∀ a b, noExc (g0 a b)) (ne' : ∀ a b, noExc (g1 a b))
    (sa : SimE X.K cl W ta f) (sb : SimE X.K cl W tb h) (sc : SimE X.K cl W tc l) : SimF X.K cl W (tChain r r' ta tb tc) (dChain g0 g1 f h l) := by
  intro δ σ H Q en po
  show ta σ H _
  refine sa.chain (P := fun H r => PostF X.K cl W σ H r Q) en po (fun c h => h) (fun H h => h) fun x u H1 _ s1 r1 p1 => ?_
  show tb σ H1 _
  refine sb.chain (P := fun H r => PostF X.K cl W σ H r Q) (en.mono s1) (p1.weak s1) (fun c h => h) (fun H h => h) fun y v H2 _ s2 r2 p2 => ?_
  have s12 := s1.trans s2
  have p2 := p2.weak s2
  cases q : g0 x y with
  | ok z =>
    rw [q, Res.ok_bind] at p2
    refine sr u v x y σ H2 _ (Rp.mono s2 _ _ r1) r2 ?_
    rw [q]
    intro zv H3 s3 rz _
    cases z with
    | bool c =>
      obtain rfl := rp_bl rz
      refine ⟨c, rfl, ?_⟩
      cases c with
      | false => exact p2 _ H3 s3 (rpb _) (fresh_no rfl)
      | true =>
        show tc σ H3 _
        refine sc.chain (P := fun H r => PostF X.K cl W σ H r Q) (en.mono (s12.trans s3)) (PostF.weak s3 p2) (fun c h => h) (fun H h => h) fun w wv H4 _ s4 r4 p4 => ?_
        refine sr' v wv y w σ H4 Q (Rp.mono (s3.trans s4) _ _ r2) r4 ?_
        have p4 := p4.weak s4
        cases q' : g1 y w with
        | ok d => rw [q'] at p4; exact p4
        | exc c => exact (ne' y w c q').elim
        | stuck => rw [q'] at p4; exact p4
    | _ => exact (show False from p2).elim
  | exc c => exact (ne x y c q).elim
  | stuck => rw [q] at p2; exact (show False from p2).elim
theorem t_chain {tc : TE} {op op' : CmpOp} {r r' : R2} {g0 g1 : D → D → Res D} {l : Dv → Res D} (ho : OpR X (compareOp op) r) (ho' : OpR X (compareOp op') r') (sr : SimR X.K cl r g0) (sr' : SimR X.K cl r' g1) (ne : ∀ a b, noExc (g0 a b)) (ne' : ∀ a b, noExc (g1 a b))
    (ha : QE X cl W a ta f) (hb : QE X cl W b tb h) (hc : QE X cl W c tc l) (hm : lastMarks [op, op'] [b, c] = false := by with_unfolding_all rfl) : QT X cl W (.Compare a [op, op'] [b, c] pos) (tTest (tChain r r' ta tb tc)) (dB (dChain g0 g1 f h l)) :=
  ⟨pt_chain ho ho' ha.pe hb.pe hc.pe hm, tTest_sim fun δ σ H Q en po => chain_sim sr sr' ne ne' ha.sim hb.sim hc.sim δ σ H Q en po.toF⟩
theorem q_chain {tc : TE} {op op' : CmpOp} {r r' : R2} {g0 g1 : D → D → Res D} {l : Dv → Res D} (ho : OpR X (compareOp op) r) (ho' : OpR X (compareOp op') r') (sr : SimR X.K cl r g0) (sr' : SimR X.K cl r' g1) (ne : ∀ a b, noExc (g0 a b)) (ne' : ∀ a b, noExc (g1 a b))
    (ha : QE X cl W a ta f) (hb : QE X cl W b tb h) (hc : QE X cl W c tc l) (hm : lastMarks [op, op'] [b, c] = false := by with_unfolding_all rfl) : QF X cl W (.Compare a [op, op'] [b, c] pos) (tChain r r' ta tb tc) (dChain g0 g1 f h l) :=
  ⟨pe_chain ho ho' ha.pe hb.pe hc.pe hm, chain_sim sr sr' ne ne' ha.sim hb.sim hc.sim⟩
/-! ### argument lists, tuples, lists -/
def dNil : Dv → Res (List D) := fun _ => .ok []
def dCons (f : Dv → Res D) (g : Dv → Res (List D)) : Dv → Res (List D) := fun δ => (f δ).bind fun d => (g δ).bind fun ds => .ok (d :: ds)
theorem a_nil : QA X cl W [] tNil dNil := ⟨pa_nil, fun δ σ H Q en po => po [] H (Same.refl H) .nil⟩
theorem a_cons {tr : TA} {gs : Dv → Res (List D)} (he : QE X cl W e ta f) (hr : QA X cl W es tr gs) (hs : starEach (e :: es) X.env = (false, eval e X.env) :: starEach es X.env := by rfl) : QA X cl W (e :: es) (tCons ta tr) (dCons f gs) := by
  refine ⟨pa_cons he.pe hr.pe hs, fun δ σ H Q en po => ?_⟩
  show ta σ H _
  refine he.sim.chain (P := fun H r => PostA X.K cl W σ H r Q) en po (fun c h => h) (fun H h => h) fun d v H1 _ s1 r1 p1 => ?_
  show tr σ H1 _
  refine hr.sim.chain (P := fun H r => PostA X.K cl W σ H r Q) (en.mono s1) (PostA.weak s1 p1) (fun c h => h) (fun H h => h) fun ds vs H2 _ s2 r2 p2 => ?_
  exact p2 (v :: vs) H2 s2 (.cons (Rp.mono s2 _ _ r1) r2)
def dTup (g : Dv → Res (List D)) : Dv → Res D := fun δ => (g δ).bind fun ds => Res.need (ds.length ≤ big) (.ok (.tuple ds))
def dLst (g : Dv → Res (List D)) : Dv → Res D := fun δ => (g δ).bind fun ds => Res.need (ds.length ≤ big) (.ok (.list ds))
theorem q_tup {tr : TA} {gs : Dv → Res (List D)} {x1 : Nat} (hr : QA X cl W es tr gs) : QF X cl W (.Tuple es x1 pos) (tTup tr) (dTup gs) := by
  refine ⟨pe_tup hr.pe, fun δ σ H Q en po => ?_⟩
  show tr σ H _
  refine hr.sim.chain (P := fun H r => PostF X.K cl W σ H r Q) en po (fun c h => h) (fun H h => h) fun ds vs H1 _ s1 r1 p1 => ?_
  obtain ⟨hc, p1⟩ := need_on p1
  refine ⟨by rw [r1.length]; exact big_le hc, fun p hp => ?_⟩
  have s := same_new (o := .tup vs) hp
  exact p1 _ _ (s1.trans s) (rpt (Or.inl (Or.inl upd_same)) (RpAll.mono s _ _ r1)) (fresh_no rfl)
theorem q_lst {tr : TA} {gs : Dv → Res (List D)} (hr : QA X cl W es tr gs) : QF X cl W (.List es pos) (tLst tr) (dLst gs) := by
  refine ⟨pe_lst hr.pe, fun δ σ H Q en po => ?_⟩
  show tr σ H _
  refine hr.sim.chain (P := fun H r => PostF X.K cl W σ H r Q) en po (fun c h => h) (fun H h => h) fun ds vs H1 _ s1 r1 p1 => ?_
  obtain ⟨hc, p1⟩ := need_on p1
  refine ⟨by rw [r1.length]; exact big_le hc, fun p hp => ?_⟩
  have s := same_new (o := .lst vs) hp
  exact p1 _ _ (s1.trans s) (rpl upd_same (RpAll.mono s _ _ r1)) (fresh_of (s1.free hp))
/-! ### built-ins -/
def SimC (K : Fg) (cl : Nat → Addr) (r : List V → Hp → VK → Prop) (g : List D → Res D) : Prop := ∀ (vs : List V) (ds : List D) (σ : L2.St) (H : Hp) (Q : VK), RpAll K H ds vs → PostF K cl (fun _ _ _ _ => False) σ H (g ds) Q → r vs H Q
def noExcC (g : List D → Res D) : Prop := ∀ ds, noExc (g ds)
theorem tCB_sim {tr : TA} {gs : Dv → Res (List D)} {r : List V → Hp → VK → Prop} {g : List D → Res D} (sa : SimA X.K cl W tr gs) (sr : SimC X.K cl r g) (ne : noExcC g) : SimF X.K cl W (tCB r tr) (fun δ => (gs δ).bind g) := by
  intro δ σ H Q en po
  show tr σ H _
  refine sa.chain (P := fun H r => PostF X.K cl W σ H r Q) en po (fun c h => h) (fun H h => h) fun ds vs H1 _ s1 r1 p1 => ?_
  refine sr vs ds σ H1 Q r1 ?_
  have p1 := p1.weak s1
  cases q : g ds with
  | ok d => rw [q] at p1; exact p1
  | exc c => exact (ne ds c q).elim
  | stuck => rw [q] at p1; exact p1
variable {x : Str} {id T : String} {p : Pos} {tr : TA} {gs : Dv → Res (List D)} {r : List V → Hp → VK → Prop} {gc : List D → Res D}
theorem q_callB (hc : CallR X (.builtin id) r) (sr : SimC X.K cl r gc) (ne : noExcC gc) (hg : Gl X x) (hm : X.mg x = none) (hv : bootBuiltins x = some (.builtin id)) (ha : QA X cl W (e :: es) tr gs) (hn : x ≠ "__name__" := by decide) (hdb : (x == ("__debug__" : Str)) = false := by decide)
    (he : starEach (e :: es) X.env = (false, eval e X.env) :: starEach es X.env := by rfl) (hpl : (backTo pos (starEach es X.env)).any (·.1) = false := by rfl) : QF X cl W (.Call (.Name x p) (e :: es) [] pos) (tCB r tr) (fun δ => (gs δ).bind gc) :=
  ⟨pe_callB hc hg hm hv ha.pe hn hdb he hpl, tCB_sim ha.sim sr ne⟩
theorem q_callTy (hc : CallR X (.type T) r) (sr : SimC X.K cl r gc) (ne : noExcC gc) (hg : Gl X x) (hm : X.mg x = none) (hv : bootBuiltins x = some (.type T)) (ha : QA X cl W (e :: es) tr gs) (hn : x ≠ "__name__" := by decide) (hdb : (x == ("__debug__" : Str)) = false := by decide)
    (he : starEach (e :: es) X.env = (false, eval e X.env) :: starEach es X.env := by rfl) (hpl : (backTo pos (starEach es X.env)).any (·.1) = false := by rfl) : QF X cl W (.Call (.Name x p) (e :: es) [] pos) (tCB r tr) (fun δ => (gs δ).bind gc) :=
  ⟨pe_callTy hc hg hm hv ha.pe hn hdb he hpl, tCB_sim ha.sim sr ne⟩
/-! ### defs -/
/-- the promise: called with n data ds, F ds -/
def spD (K : Fg) (cl : Nat → Addr) (n : Nat) (F : List D → Res D) : Sp := fun vs H Q E => ∃ ds, RpAll K H ds vs ∧ ds.length = n ∧ (F ds).on (fun d => ∀ v H', Same H H' → Rp K H' d v → Fresh H v d → Q v H') (fun c => ∀ H', Same H H' → E (.ref (cl c)) none H')
theorem spD_len {K : Fg} {n : Nat} {F : List D → Res D} {vs : List V} {H : Hp} {Q : VK} {E : XK} (h : spD K cl n F vs H Q E) : vs.length = n := by
  obtain ⟨ds, h1, h2, _⟩ := h
  rw [h1.length, h2]
variable {n k0 : Nat} {F : List D → Res D} {fa : Addr} {fd : FuncData} {ps : List Str} {CX : CXT}
def dCall (n : Nat) (F : List D → Res D) (gs : Dv → Res (List D)) : Dv → Res D := fun δ => (gs δ).bind fun ds => if ds.length = n then F ds else .stuck
theorem tCallS_sim {K : Fg} (sa : SimA K cl W tr gs) : SimF K cl W (tCallS (spD K cl n F) (WE W) tr) (dCall n F gs) := by
  intro δ σ H Q en po
  show tr σ H _
  refine sa.chain (P := fun H r => PostF K cl W σ H r Q) en po (fun c h => h) (fun H h => h) fun ds vs H1 _ s1 r1 p1 => ?_
  have p1 := p1.weak s1
  by_cases hn : ds.length = n
  · rw [if_pos hn] at p1
    exact ⟨ds, r1, hn, p1⟩
  · rw [if_neg hn] at p1
    exact p1.elim
theorem q_call (G : FnOk X.prog X.w X.K X.mg X.base CX k0 fa fd ps (spD X.K cl n F)) (hr : Room k0 X.A) (hg : Gl X x) (hm : X.mg x = some (.ref fa)) (hk : PySem.W.keepIn X.K (.ref fa) = true) (hb : Binds X.K fd ps []) (hx : ∀ σ, PassesAt CX X σ (WE W σ))
    (ha : QA X cl W (e :: es) tr gs) (hdb : (x == ("__debug__" : Str)) = false := by decide) (he : starEach (e :: es) X.env = (false, eval e X.env) :: starEach es X.env := by rfl) (hpl : (backTo pos (starEach es X.env)).any (·.1) = false := by rfl) :
    QF X cl W (.Call (.Name x p) (e :: es) [] pos) (tCallS (spD X.K cl n F) (WE W) tr) (dCall n F gs) :=
  ⟨pe_callS G hr hg hm hk hb hx ha.pe hdb he hpl, tCallS_sim ha.sim⟩
end
end DL
namespace DL
open PySem L2
/-! ### the slots of a body: what they stand for, and which lists and dicts are the body's own -/
inductive Sl where
  | fz (d : D)
  | ow (d : D)
def Sl.d : Sl → D
  | .fz d => d
  | .ow d => d
abbrev Env := List (Option Sl)
def view (ε : Env) : Dv := ε.map (Option.map Sl.d)
/-- H without the body's own -/
def hide (H : Hp) (M : List Addr) : Hp := fun a => if a ∈ M then none else H a
theorem hide_same (H : Hp) (M : List Addr) : Same (hide H M) H := fun a o h => by
  unfold hide at h
  by_cases q : a ∈ M
  · rw [if_pos q] at h; cases h
  · rw [if_neg q] at h; exact h
theorem hide_ne {H : Hp} {M : List Addr} {a : Addr} (h : a ∉ M) : hide H M a = H a := if_neg h
theorem hide_mono {H H' : Hp} {M : List Addr} (s : Same H H') : Same (hide H M) (hide H' M) := fun a o h => by
  unfold hide at h ⊢
  by_cases q : a ∈ M
  · rw [if_pos q] at h; cases h
  · rw [if_neg q] at h ⊢; exact s a o h
theorem hide_upd {H : Hp} {M : List Addr} {a : Addr} {o : HO} (h : a ∈ M) : hide (upd H a o) M = hide H M := by
  funext b
  unfold hide
  by_cases q : b ∈ M
  · rw [if_pos q, if_pos q]
  · have ne : b ≠ a := fun z => q (by rw [z]; exact h)
    rw [if_neg q, if_neg q, upd_ne ne]
theorem hide_more {H H' : Hp} {M : List Addr} {p : Addr} (s : Same H H') (h : H p = none) : Same (hide H M) (hide H' (p :: M)) := fun a o e => by
  have ha := hide_same H M a o e
  have hm : a ∉ M := fun q => by unfold hide at e; rw [if_pos q] at e; cases e
  have hp : a ≠ p := fun z => by rw [z, h] at ha; cases ha
  rw [hide_ne (by simp only [List.mem_cons, not_or]; exact ⟨hp, hm⟩)]
  exact s a o ha
/-- a list or a dict stands at a -/
def Boxy (H : Hp) (a : Addr) : Prop := (∃ xs, H a = some (.lst xs)) ∨ (∃ xs, H a = some (.dK xs)) ∨ ∃ xs, H a = some (.dT xs)
theorem Boxy.mono {H H' : Hp} {a : Addr} (s : Same H H') (h : Boxy H a) : Boxy H' a := by
  rcases h with ⟨xs, h⟩ | ⟨xs, h⟩ | ⟨xs, h⟩
  · exact .inl ⟨xs, s _ _ h⟩
  · exact .inr (.inl ⟨xs, s _ _ h⟩)
  · exact .inr (.inr ⟨xs, s _ _ h⟩)
theorem hide_t {K : Fg} {H : Hp} {M : List Addr} {a : Addr} {xs : List V} (b : ∀ a ∈ M, Boxy H a) (h : SqT K H a xs) : SqT K (hide H M) a xs := by
  rcases h with h | h
  · refine .inl ?_
    have hm : a ∉ M := fun q => by
      rcases b a q with ⟨ys, e⟩ | ⟨ys, e⟩ | ⟨ys, e⟩ <;> rcases h with h | ⟨o, h⟩ <;> (rw [e] at h; cases h)
    rcases h with h | ⟨o, h⟩
    · exact .inl (by rw [hide_ne hm]; exact h)
    · exact .inr ⟨o, by rw [hide_ne hm]; exact h⟩
  · exact .inr h
/-! data without lists and dicts does not hang on the body's own -/
mutual
theorem Rp.hide {K : Fg} {H : Hp} {M : List Addr} (b : ∀ a ∈ M, Boxy H a) : ∀ (d : D) (v : V), imm d = true → Rp K H d v → Rp K (DL.hide H M) d v
  | .none, _, _, h => by unfold Rp at h ⊢; exact h
  | .bool _, _, _, h => by unfold Rp at h ⊢; exact h
  | .int _, _, _, h => by unfold Rp at h ⊢; exact h
  | .str _, _, _, h => by unfold Rp at h ⊢; exact h
  | .list _, _, i, _ => by unfold imm at i; cases i
  | .tuple l, _, i, h => by
    unfold imm at i
    unfold Rp at h ⊢
    obtain ⟨a, xs, hv, ha, hx⟩ := h
    exact ⟨a, xs, hv, hide_t b ha, RpAll.hide b l xs i hx⟩
  | .dicK _ _, _, i, _ => by unfold imm at i; cases i
  | .dicT _ _, _, i, _ => by unfold imm at i; cases i
  | .scr _, _, i, _ => by unfold imm at i; cases i
theorem RpAll.hide {K : Fg} {H : Hp} {M : List Addr} (b : ∀ a ∈ M, Boxy H a) : ∀ (ds : List D) (vs : List V), immAll ds = true → RpAll K H ds vs → RpAll K (DL.hide H M) ds vs
  | [], _, _, h => by unfold RpAll at h ⊢; exact h
  | d :: ds, _, i, h => by
    unfold immAll at i
    rw [Bool.and_eq_true] at i
    unfold RpAll at h ⊢
    obtain ⟨v, r, hv, h1, h2⟩ := h
    exact ⟨v, r, hv, Rp.hide b d v i.1 h1, RpAll.hide b ds r i.2 h2⟩
end
/-- a list's or dict's own items -/
def inner : D → List D
  | .list l => l
  | .dicK _ l => l
  | .dicT _ l => l
  | _ => []
/-- the body's own list or dict at a: its items are data without lists -/
def Own (K : Fg) (H : Hp) (a : Addr) (d : D) : Prop := isBox d = true ∧ immAll (inner d) = true ∧ Rp K H d (.ref a)
/-- the slots σ over H stand for ε; H0: what stood at the entry -/
def SR (K : Fg) (H0 : Hp) (ε : Env) (σ : L2.St) (H : Hp) : Prop := ∃ M : List Addr, Same H0 (hide H M) ∧ (∀ a ∈ M, Boxy H a) ∧
  (∀ (i : Nat) (d : D), ε[i]? = some (some (.fz d)) → ∃ v, σ[i]? = some (some v) ∧ Rp K (hide H M) d v) ∧
  (∀ (i : Nat) (d : D), ε[i]? = some (some (.ow d)) → ∃ a, σ[i]? = some (some (.ref a)) ∧ a ∈ M ∧ Own K H a d) ∧
  ∀ (i j : Nat) (d e : D), i ≠ j → ε[i]? = some (some (.ow d)) → ε[j]? = some (some (.ow e)) → σ[i]? ≠ σ[j]?
section
variable {K : Fg} {H0 H H' : Hp} {ε : Env} {σ : L2.St}
theorem SR.same (h : SR K H0 ε σ H) : Same H0 H := by
  obtain ⟨M, s, _⟩ := h
  exact s.trans (hide_same H M)
theorem SR.lower {B : Hp} (s : Same B H0) (h : SR K H0 ε σ H) : SR K B ε σ H := by
  obtain ⟨M, s1, r⟩ := h
  exact ⟨M, s.trans s1, r⟩
theorem SR.mono (s : Same H H') (h : SR K H0 ε σ H) : SR K H0 ε σ H' := by
  obtain ⟨M, s1, b, f, o, n⟩ := h
  refine ⟨M, s1.trans (hide_mono s), fun a ha => (b a ha).mono s, fun i d e => ?_, fun i d e => ?_, n⟩
  · obtain ⟨v, h1, h2⟩ := f i d e
    exact ⟨v, h1, Rp.mono (hide_mono s) _ _ h2⟩
  · obtain ⟨a, h1, h2, h3, h4, h5⟩ := o i d e
    exact ⟨a, h1, h2, h3, h4, Rp.mono s _ _ h5⟩
theorem view_get {ε : Env} {i : Nat} {d : D} (h : (view ε)[i]? = some (some d)) : ε[i]? = some (some (.fz d)) ∨ ε[i]? = some (some (.ow d)) := by
  unfold view at h
  rw [List.getElem?_map] at h
  cases q : ε[i]? with
  | none => rw [q] at h; cases h
  | some o =>
    rw [q] at h
    cases o with
    | none => cases h
    | some s =>
      cases s with
      | fz e => cases h; exact .inl rfl
      | ow e => cases h; exact .inr rfl
theorem SR.env (h : SR K H0 ε σ H) (l : σ.length = ε.length) : EnvD K H σ (view ε) := ⟨by unfold view; rw [List.length_map, l]; exact Nat.le_refl _, fun i d e => by
  obtain ⟨M, s1, b, f, o, n⟩ := h
  rcases view_get e with e | e
  · obtain ⟨v, h1, h2⟩ := f i d e
    exact ⟨v, h1, Rp.mono (hide_same H M) _ _ h2⟩
  · obtain ⟨a, h1, h2, h3, h4, h5⟩ := o i d e
    exact ⟨_, h1, h5⟩⟩
/-- what may be put into a slot as it is: no list within; or a list or dict of such -/
def calm : D → Bool
  | .list l => immAll l
  | .dicK _ l => immAll l
  | .dicT _ l => immAll l
  | d => imm d
theorem set_get {α : Type} {l : List α} {i j : Nat} {a b : α} (h : (l.set i a)[j]? = some b) : (j = i ∧ i < l.length ∧ b = a) ∨ (j ≠ i ∧ l[j]? = some b) := by
  by_cases q : i = j
  · subst q
    by_cases hl : i < l.length
    · rw [List.getElem?_set_self hl] at h
      cases h
      exact .inl ⟨rfl, hl, rfl⟩
    · rw [List.getElem?_eq_none (by rw [List.length_set]; omega)] at h
      cases h
  · rw [List.getElem?_set_ne q] at h
    exact .inr ⟨fun z => q z.symm, h⟩
theorem set_out {α : Type} {l : List α} {i j : Nat} {a : α} (h : j ≠ i) : (l.set i a)[j]? = l[j]? := List.getElem?_set_ne (fun z => h z.symm)
/-- a new datum in slot i, read only -/
theorem SR.put {v : V} {d : D} {i : Nat} (h : SR K H0 ε σ H) (hi : i < σ.length) (c : calm d = true) (s : Same H H') (r : Rp K H' d v) (fr : Fresh H v d) : SR K H0 (ε.set i (some (.fz d))) (σ.set i (some v)) H' := by
  obtain ⟨M, s1, b, f, o, n⟩ := h.mono s
  obtain ⟨M0, t1, b0, f0, o0, n0⟩ := h
  have key : ∀ (M' : List Addr), (∀ a ∈ M', Boxy H' a) → (∀ p, H p = none → p ∉ M') → Rp K (hide H' M') d v := fun M' b' nm => by
    cases d with
    | list l =>
      obtain ⟨a, xs, rfl, ha, hx⟩ := rp_list r
      obtain ⟨p, hp, hn⟩ := fr rfl
      cases hp
      exact rpl (by rw [hide_ne (nm _ hn)]; exact ha) (RpAll.hide b' l xs c hx)
    | dicK ks l =>
      unfold Rp at r ⊢
      obtain ⟨a, xs, rfl, ha, hk, hx⟩ := r
      obtain ⟨p, hp, hn⟩ := fr rfl
      cases hp
      exact ⟨a, xs, rfl, by rw [hide_ne (nm _ hn)]; exact ha, hk, RpAll.hide b' l _ c hx⟩
    | dicT ks l =>
      unfold Rp at r ⊢
      obtain ⟨a, xs, rfl, ha, hk, hx⟩ := r
      obtain ⟨p, hp, hn⟩ := fr rfl
      cases hp
      exact ⟨a, xs, rfl, by rw [hide_ne (nm _ hn)]; exact ha, hk, RpAll.hide b' l _ c hx⟩
    | _ => exact Rp.hide b' _ _ c r
  -- the old own addresses
  have bm : ∀ a ∈ M0, Boxy H' a := fun a ha => (b0 a ha).mono s
  refine ⟨M0, t1.trans (hide_mono s), bm, fun j e q => ?_, fun j e q => ?_, fun j k e e' hjk q1 q2 => ?_⟩
  · rcases set_get q with ⟨rfl, _, z⟩ | ⟨z1, z2⟩
    · cases z
      refine ⟨v, List.getElem?_set_self hi, key M0 bm fun p hp hm => ?_⟩
      rcases b0 p hm with ⟨_, e⟩ | ⟨_, e⟩ | ⟨_, e⟩ <;> (rw [hp] at e; cases e)
    · obtain ⟨u, h1, h2⟩ := f0 j e z2
      exact ⟨u, by rw [set_out z1]; exact h1, Rp.mono (hide_mono s) _ _ h2⟩
  · rcases set_get q with ⟨rfl, _, z⟩ | ⟨z1, z2⟩
    · cases z
    · obtain ⟨u, h1, h2, h3, h4, h5⟩ := o0 j e z2
      exact ⟨u, by rw [set_out z1]; exact h1, h2, h3, h4, Rp.mono s _ _ h5⟩
  · rcases set_get q1 with ⟨rfl, _, z⟩ | ⟨z1, z2⟩
    · cases z
    · rcases set_get q2 with ⟨rfl, _, z⟩ | ⟨y1, y2⟩
      · cases z
      · rw [set_out z1, set_out y1]
        exact n0 j k e e' hjk z2 y2
/-- a new list or dict in slot i, the body's own -/
theorem SR.putOwn {v : V} {d : D} {i : Nat} (h : SR K H0 ε σ H) (hi : i < σ.length) (bx : isBox d = true) (ns : ∀ ns, d ≠ .scr ns) (c : calm d = true) (s : Same H H') (r : Rp K H' d v) (fr : Fresh H v d) : SR K H0 (ε.set i (some (.ow d))) (σ.set i (some v)) H' := by
  obtain ⟨M0, t1, b0, f0, o0, n0⟩ := h
  obtain ⟨p, rfl, hp⟩ := fr bx
  have pm : p ∉ M0 := fun hm => by
    rcases b0 p hm with ⟨_, e⟩ | ⟨_, e⟩ | ⟨_, e⟩ <;> (rw [hp] at e; cases e)
  have hin : immAll (inner d) = true := by
    cases d with
    | list l => exact c
    | dicK ks l => exact c
    | dicT ks l => exact c
    | scr l => rfl
    | _ => cases bx
  have hbx : Boxy H' p := by
    cases d with
    | list l => obtain ⟨a, xs, e, ha, _⟩ := rp_list r; cases e; exact .inl ⟨xs, ha⟩
    | dicK ks l => unfold Rp at r; obtain ⟨a, xs, e, ha, _⟩ := r; cases e; exact .inr (.inl ⟨xs, ha⟩)
    | dicT ks l => unfold Rp at r; obtain ⟨a, xs, e, ha, _⟩ := r; cases e; exact .inr (.inr ⟨xs, ha⟩)
    | scr l => exact (ns l rfl).elim
    | _ => cases bx
  have sm := hide_more (M := M0) s hp
  refine ⟨p :: M0, t1.trans sm, fun a ha => ?_, fun j e q => ?_, fun j e q => ?_, fun j k e e' hjk q1 q2 => ?_⟩
  · rcases List.mem_cons.mp ha with rfl | ha
    · exact hbx
    · exact (b0 a ha).mono s
  · rcases set_get q with ⟨rfl, _, z⟩ | ⟨z1, z2⟩
    · cases z
    · obtain ⟨u, h1, h2⟩ := f0 j e z2
      exact ⟨u, by rw [set_out z1]; exact h1, Rp.mono sm _ _ h2⟩
  · rcases set_get q with ⟨rfl, _, z⟩ | ⟨z1, z2⟩
    · cases z
      exact ⟨p, List.getElem?_set_self hi, List.mem_cons_self, bx, hin, r⟩
    · obtain ⟨u, h1, h2, h3, h4, h5⟩ := o0 j e z2
      exact ⟨u, by rw [set_out z1]; exact h1, List.mem_cons_of_mem _ h2, h3, h4, Rp.mono s _ _ h5⟩
  · have out : ∀ j e, j ≠ i → ε[j]? = some (some (.ow e)) → σ[j]? ≠ some (some (.ref p)) := fun j e hj q z => by
      obtain ⟨u, h1, h2, _⟩ := o0 j e q
      rw [h1] at z
      cases z
      exact pm h2
    rcases set_get q1 with ⟨rfl, _, z⟩ | ⟨z1, z2⟩
    · rcases set_get q2 with ⟨rfl, _, z⟩ | ⟨y1, y2⟩
      · exact (hjk rfl).elim
      · rw [List.getElem?_set_self hi, set_out y1]
        exact fun z => out k e' y1 y2 z.symm
    · rcases set_get q2 with ⟨rfl, _, z⟩ | ⟨y1, y2⟩
      · rw [List.getElem?_set_self hi, set_out z1]
        exact out j e z1 z2
      · rw [set_out z1, set_out y1]
        exact n0 j k e e' hjk z2 y2
/-- the list of slot i changes -/
theorem SR.change {a : Addr} {l l' : List D} {xs : List V} {i : Nat} (h : SR K H0 ε σ H) (hi : ε[i]? = some (some (.ow (.list l)))) (ha : σ[i]? = some (some (.ref a))) (im : immAll l' = true) (r : RpAll K H l' xs) :
    SR K H0 (ε.set i (some (.ow (.list l')))) σ (upd H a (.lst xs)) := by
  obtain ⟨M0, t1, b0, f0, o0, n0⟩ := h
  obtain ⟨u, h1, h2, h3, h4, h5⟩ := o0 i _ hi
  rw [ha] at h1
  cases h1
  have li : i < ε.length := by
    rcases Nat.lt_or_ge i ε.length with q | q
    · exact q
    · rw [List.getElem?_eq_none q] at hi; cases hi
  have eh : hide (upd H a (.lst xs)) M0 = hide H M0 := hide_upd h2
  have rr : RpAll K (upd H a (.lst xs)) l' xs := by
    have z := RpAll.hide b0 l' xs im r
    rw [← eh] at z
    exact RpAll.mono (hide_same _ _) _ _ z
  have keepB : ∀ b ∈ M0, Boxy (upd H a (.lst xs)) b := fun b hb => by
    by_cases q : b = a
    · subst q; exact .inl ⟨xs, upd_same⟩
    · rcases b0 b hb with ⟨ys, e⟩ | ⟨ys, e⟩ | ⟨ys, e⟩
      · exact .inl ⟨ys, by rw [upd_ne q]; exact e⟩
      · exact .inr (.inl ⟨ys, by rw [upd_ne q]; exact e⟩)
      · exact .inr (.inr ⟨ys, by rw [upd_ne q]; exact e⟩)
  refine ⟨M0, by rw [eh]; exact t1, keepB, fun j e q => ?_, fun j e q => ?_, fun j k e e' hjk q1 q2 => ?_⟩
  · rcases set_get q with ⟨rfl, _, z⟩ | ⟨z1, z2⟩
    · cases z
    · rw [eh]
      exact f0 j e z2
  · rcases set_get q with ⟨rfl, _, z⟩ | ⟨z1, z2⟩
    · cases z
      exact ⟨a, ha, h2, rfl, im, rpl upd_same rr⟩
    · obtain ⟨w, w1, w2, w3, w4, w5⟩ := o0 j e z2
      have ne : w ≠ a := fun z => n0 j i e _ z1 z2 hi (by rw [w1, ha, z])
      refine ⟨w, w1, w2, w3, w4, ?_⟩
      cases e with
      | list m =>
        obtain ⟨c, ys, e1, e2, e3⟩ := rp_list w5
        cases e1
        have z := RpAll.hide b0 m ys w4 e3
        rw [← eh] at z
        exact rpl (by rw [upd_ne ne]; exact e2) (RpAll.mono (hide_same _ _) _ _ z)
      | dicK ks m =>
        unfold Rp at w5 ⊢
        obtain ⟨c, ys, e1, e2, e4, e3⟩ := w5
        cases e1
        have z := RpAll.hide b0 m _ w4 e3
        rw [← eh] at z
        exact ⟨w, ys, rfl, by rw [upd_ne ne]; exact e2, e4, RpAll.mono (hide_same _ _) _ _ z⟩
      | dicT ks m =>
        unfold Rp at w5 ⊢
        obtain ⟨c, ys, e1, e2, e4, e3⟩ := w5
        cases e1
        have z := RpAll.hide b0 m _ w4 e3
        rw [← eh] at z
        exact ⟨w, ys, rfl, by rw [upd_ne ne]; exact e2, e4, RpAll.mono (hide_same _ _) _ _ z⟩
      | scr ns =>
        rcases b0 w w2 with ⟨ys, e⟩ | ⟨ys, e⟩ | ⟨ys, e⟩
        · unfold Rp at w5 ⊢
          obtain ⟨c, e1, e2⟩ := w5
          cases e1
          refine ⟨w, rfl, ?_⟩
          rcases e2 with (e2 | ⟨o, e2⟩) | e2
          · exact .inl (.inl (by rw [upd_ne ne]; exact e2))
          · exact .inl (.inr ⟨o, by rw [upd_ne ne]; exact e2⟩)
          · exact .inr e2
        · unfold Rp at w5 ⊢
          obtain ⟨c, e1, e2⟩ := w5
          cases e1
          refine ⟨w, rfl, ?_⟩
          rcases e2 with (e2 | ⟨o, e2⟩) | e2
          · exact .inl (.inl (by rw [upd_ne ne]; exact e2))
          · exact .inl (.inr ⟨o, by rw [upd_ne ne]; exact e2⟩)
          · exact .inr e2
        · unfold Rp at w5 ⊢
          obtain ⟨c, e1, e2⟩ := w5
          cases e1
          refine ⟨w, rfl, ?_⟩
          rcases e2 with (e2 | ⟨o, e2⟩) | e2
          · exact .inl (.inl (by rw [upd_ne ne]; exact e2))
          · exact .inl (.inr ⟨o, by rw [upd_ne ne]; exact e2⟩)
          · exact .inr e2
      | _ => cases w3
  · rcases set_get q1 with ⟨rfl, _, z⟩ | ⟨z1, z2⟩
    · rcases set_get q2 with ⟨rfl, _, z'⟩ | ⟨y1, y2⟩
      · exact (hjk rfl).elim
      · exact n0 _ _ _ _ hjk hi y2
    · rcases set_get q2 with ⟨rfl, _, z'⟩ | ⟨y1, y2⟩
      · exact n0 _ _ _ _ hjk z2 hi
      · exact n0 _ _ _ _ hjk z2 y2
/-- slot i's own list is from now on only read -/
theorem SR.freeze {d : D} {i : Nat} (h : SR K H0 ε σ H) (hi : ε[i]? = some (some (.ow d))) : SR K H0 (ε.set i (some (.fz d))) σ H := by
  obtain ⟨M0, t1, b0, f0, o0, n0⟩ := h
  obtain ⟨a, h1, h2, h3, h4, h5⟩ := o0 i _ hi
  have sm : Same (hide H M0) (hide H (M0.filter (· ≠ a))) := fun b o e => by
    have hb := hide_same _ _ _ _ e
    have hm : b ∉ M0 := fun q => by unfold hide at e; rw [if_pos q] at e; cases e
    rw [hide_ne (fun q => hm (List.mem_filter.mp q).1)]
    exact hb
  have bb : ∀ b ∈ M0.filter (· ≠ a), Boxy H b := fun b hb => b0 b (List.mem_filter.mp hb).1
  have na : a ∉ M0.filter (· ≠ a) := fun q => by simpa using (List.mem_filter.mp q).2
  have rr : Rp K (hide H (M0.filter (· ≠ a))) d (.ref a) := by
    cases d with
    | list l =>
      obtain ⟨c, xs, e, ha, hx⟩ := rp_list h5
      cases e
      exact rpl (by rw [hide_ne na]; exact ha) (RpAll.hide bb l xs h4 hx)
    | dicK ks l =>
      unfold Rp at h5 ⊢
      obtain ⟨c, xs, e, ha, hk, hx⟩ := h5
      cases e
      exact ⟨a, xs, rfl, by rw [hide_ne na]; exact ha, hk, RpAll.hide bb l _ h4 hx⟩
    | dicT ks l =>
      unfold Rp at h5 ⊢
      obtain ⟨c, xs, e, ha, hk, hx⟩ := h5
      cases e
      exact ⟨a, xs, rfl, by rw [hide_ne na]; exact ha, hk, RpAll.hide bb l _ h4 hx⟩
    | scr ns =>
      unfold Rp at h5 ⊢
      obtain ⟨c, e1, e2⟩ := h5
      cases e1
      refine ⟨a, rfl, ?_⟩
      rcases e2 with (e2 | ⟨o, e2⟩) | e2
      · exact .inl (.inl (by rw [hide_ne na]; exact e2))
      · exact .inl (.inr ⟨o, by rw [hide_ne na]; exact e2⟩)
      · exact .inr e2
    | _ => cases h3
  refine ⟨M0.filter (· ≠ a), t1.trans sm, bb, fun j e q => ?_, fun j e q => ?_, fun j k e e' hjk q1 q2 => ?_⟩
  · rcases set_get q with ⟨rfl, _, z⟩ | ⟨z1, z2⟩
    · cases z
      exact ⟨_, h1, rr⟩
    · obtain ⟨u, u1, u2⟩ := f0 j e z2
      exact ⟨u, u1, Rp.mono sm _ _ u2⟩
  · rcases set_get q with ⟨rfl, _, z⟩ | ⟨z1, z2⟩
    · cases z
    · obtain ⟨w, w1, w2, w3⟩ := o0 j e z2
      have ne : w ≠ a := fun z => n0 j i e _ z1 z2 hi (by rw [w1, h1, z])
      exact ⟨w, w1, List.mem_filter.mpr ⟨w2, by simpa using ne⟩, w3⟩
  · rcases set_get q1 with ⟨rfl, _, z⟩ | ⟨z1, z2⟩
    · cases z
    · rcases set_get q2 with ⟨rfl, _, z'⟩ | ⟨y1, y2⟩
      · cases z'
      · exact n0 _ _ _ _ hjk z2 y2
/-- a slot is forgotten -/
theorem SR.forget {ε' : Env} (h : SR K H0 ε σ H) (w : ∀ (i : Nat) (s : Sl), ε'[i]? = some (some s) → ε[i]? = some (some s)) : SR K H0 ε' σ H := by
  obtain ⟨M0, t1, b0, f0, o0, n0⟩ := h
  exact ⟨M0, t1, b0, fun i d e => f0 i d (w i _ e), fun i d e => o0 i d (w i _ e), fun i j d e hij q1 q2 => n0 i j d e hij (w i _ q1) (w j _ q2)⟩
end
end DL
namespace DL
open PySem L2
/-- .. and as many slots as there are names -/
def SQ (K : Fg) (H0 : Hp) (ε : Env) (σ : L2.St) (H : Hp) : Prop := SR K H0 ε σ H ∧ σ.length = ε.length
/-- what is wanted behind a statement, over data -/
structure DE where
  nx : Env → Prop
  rt : D → Prop
  ex : Nat → Env → Prop := fun _ _ => False
  bk : Env → Prop := fun _ => False
  ct : Env → Prop := fun _ => False
structure EndR (K : Fg) (cl : Nat → Addr) (W : WX) (H0 : Hp) (d : DE) (D' : Ends) : Prop where
  nx : ∀ ε σ H, SQ K H0 ε σ H → d.nx ε → D'.nx σ H
  rt : ∀ x v H, Same H0 H → Rp K H x v → Fresh H0 v x → d.rt x → D'.rt v H
  ex : ∀ c ε σ H, SQ K H0 ε σ H → d.ex c ε → W (.ref (cl c)) none σ H
  bk : ∀ ε σ H, SQ K H0 ε σ H → d.bk ε → D'.bk σ H
  ct : ∀ ε σ H, SQ K H0 ε σ H → d.ct ε → D'.ct σ H
abbrev DS := DE → Env → Prop
def SimS (K : Fg) (cl : Nat → Addr) (W : WX) (ts : TS) (g : DS) : Prop := ∀ (H0 : Hp) (d : DE) (D' : Ends) (ε : Env) (σ : L2.St) (H : Hp), EndR K cl W H0 d D' → SQ K H0 ε σ H → g d ε → ts D' σ H
structure QS (X : Cx) (cl : Nat → Addr) (W : WX) (st : Stmt) (ts : TS) (g : DS) : Prop where
  ps : PS X st ts
  sim : SimS X.K cl W ts g
structure QSs (X : Cx) (cl : Nat → Addr) (W : WX) (st : List Stmt) (ts : TS) (g : DS) : Prop where
  ps : PSs X st ts
  sim : SimS X.K cl W ts g
section
variable {K : Fg} {X : Cx} {cl : Nat → Addr} {W : WX} {H0 H H' : Hp} {ε : Env} {σ : L2.St}
theorem SQ.env (h : SQ K H0 ε σ H) : EnvD K H σ (view ε) := h.1.env h.2
theorem SQ.mono (s : Same H H') (h : SQ K H0 ε σ H) : SQ K H0 ε σ H' := ⟨h.1.mono s, h.2⟩
theorem SQ.put {v : V} {d : D} {i : Nat} (h : SQ K H0 ε σ H) (hi : i < ε.length) (c : calm d = true) (s : Same H H') (r : Rp K H' d v) (fr : Fresh H v d) : SQ K H0 (ε.set i (some (.fz d))) (σ.set i (some v)) H' :=
  ⟨h.1.put (by rw [h.2]; exact hi) c s r fr, by rw [List.length_set, List.length_set, h.2]⟩
theorem SQ.putOwn {v : V} {d : D} {i : Nat} (h : SQ K H0 ε σ H) (hi : i < ε.length) (bx : isBox d = true) (ns : ∀ ns, d ≠ .scr ns) (c : calm d = true) (s : Same H H') (r : Rp K H' d v) (fr : Fresh H v d) : SQ K H0 (ε.set i (some (.ow d))) (σ.set i (some v)) H' :=
  ⟨h.1.putOwn (by rw [h.2]; exact hi) bx ns c s r fr, by rw [List.length_set, List.length_set, h.2]⟩
theorem SQ.change {a : Addr} {l l' : List D} {xs : List V} {i : Nat} (h : SQ K H0 ε σ H) (hi : ε[i]? = some (some (.ow (.list l)))) (ha : σ[i]? = some (some (.ref a))) (im : immAll l' = true) (r : RpAll K H l' xs) :
    SQ K H0 (ε.set i (some (.ow (.list l')))) σ (upd H a (.lst xs)) := ⟨h.1.change hi ha im r, by rw [List.length_set, h.2]⟩
theorem SQ.freeze {d : D} {i : Nat} (h : SQ K H0 ε σ H) (hi : ε[i]? = some (some (.ow d))) : SQ K H0 (ε.set i (some (.fz d))) σ H := ⟨h.1.freeze hi, by rw [List.length_set, h.2]⟩
theorem SQ.lower {B : Hp} (s : Same B H0) (h : SQ K H0 ε σ H) : SQ K B ε σ H := ⟨h.1.lower s, h.2⟩
theorem EndR.raise {B : Hp} {d : DE} {D' : Ends} (s : Same H0 B) (e : EndR K cl W H0 d D') : EndR K cl W B d D' :=
  ⟨fun ε σ H h => e.nx ε σ H (h.lower s), fun x v H sm r f => e.rt x v H (s.trans sm) r (f.back s), fun c ε σ H h => e.ex c ε σ H (h.lower s), fun ε σ H h => e.bk ε σ H (h.lower s), fun ε σ H h => e.ct ε σ H (h.lower s)⟩
/-- an expression, then the rest by its value -/
theorem SimF.runS {te : TE} {f : Dv → Res D} {d : DE} {D' : Ends} {k : D → Prop} {Q : VK} (s : SimF K cl W te f) (en : EndR K cl W H0 d D') (q : SQ K H0 ε σ H) (h : (f (view ε)).on k (fun c => d.ex c ε))
    (hk : ∀ x v H', f (view ε) = .ok x → Same H H' → Rp K H' x v → Fresh H v x → k x → Q v H') : te σ H Q := by
  refine s (view ε) σ H Q q.env ?_
  cases r : f (view ε) with
  | ok x => rw [r] at h; exact fun v H' sm rp fr => hk x v H' r sm rp fr h
  | exc c => rw [r] at h; exact fun H' sm => en.ex c ε σ H' (q.mono sm) h
  | stuck => rw [r] at h; exact h.elim
theorem SimE.runS {te : TE} {f : Dv → Res D} {d : DE} {D' : Ends} {k : D → Prop} {Q : VK} (s : SimE K cl W te f) (en : EndR K cl W H0 d D') (q : SQ K H0 ε σ H) (h : (f (view ε)).on k (fun c => d.ex c ε))
    (hk : ∀ x v H', f (view ε) = .ok x → Same H H' → Rp K H' x v → k x → Q v H') : te σ H Q := by
  refine s (view ε) σ H Q q.env ?_
  cases r : f (view ε) with
  | ok x => rw [r] at h; exact fun v H' sm rp => hk x v H' r sm rp h
  | exc c => rw [r] at h; exact fun H' sm => en.ex c ε σ H' (q.mono sm) h
  | stuck => rw [r] at h; exact h.elim
theorem SimT.runS {te : TT} {f : Dv → Res Bool} {d : DE} {D' : Ends} {k : Bool → Prop} {Q : Bool → Hp → Prop} (s : SimT K cl W te f) (en : EndR K cl W H0 d D') (q : SQ K H0 ε σ H) (h : (f (view ε)).on k (fun c => d.ex c ε))
    (hk : ∀ x H', f (view ε) = .ok x → Same H H' → k x → Q x H') : te σ H Q := by
  refine s (view ε) σ H Q q.env ?_
  cases r : f (view ε) with
  | ok x => rw [r] at h; exact fun H' sm => hk x H' r sm h
  | exc c => rw [r] at h; exact fun H' sm => en.ex c ε σ H' (q.mono sm) h
  | stuck => rw [r] at h; exact h.elim
variable {e c : Expr} {st : Stmt} {rest sa sb : List Stmt} {pos pos' : Pos} {te : TE} {tc : TT} {t u : TS} {f : Dv → Res D} {fb : Dv → Res Bool} {g k : DS}
/-! ### blocks -/
def gNext : DS := fun d ε => d.nx ε
def gSeq (g k : DS) : DS := fun d ε => g { d with nx := k d } ε
theorem b_nil : QSs X cl W [] tNext gNext := ⟨pss_nil, fun H0 d D' ε σ H en q h => en.nx ε σ H q h⟩
theorem b_one (h : QS X cl W st t g) : QSs X cl W [st] t g := ⟨pss_one h.ps, h.sim⟩
theorem b_cons (h1 : QS X cl W st t g) (h2 : QSs X cl W rest u k) : QSs X cl W (st :: rest) (tSeq t u) (gSeq g k) := by
  refine ⟨pss_cons h1.ps h2.ps, fun H0 d D' ε σ H en q h => ?_⟩
  exact h1.sim H0 { d with nx := k d } { D' with nx := u D' } ε σ H ⟨fun ε' σ' H' q' h' => h2.sim H0 d D' ε' σ' H' en q' h', en.rt, en.ex, en.bk, en.ct⟩ q h
theorem s_pass : QS X cl W (.Pass pos) tNext gNext := ⟨ps_pass, fun H0 d D' ε σ H en q h => en.nx ε σ H q h⟩
theorem s_break : QS X cl W (.Break pos) tBreak (fun d ε => d.bk ε) := ⟨ps_break, fun H0 d D' ε σ H en q h => en.bk ε σ H q h⟩
theorem s_cont : QS X cl W (.Continue pos) tCont (fun d ε => d.ct ε) := ⟨ps_continue, fun H0 d D' ε σ H en q h => en.ct ε σ H q h⟩
theorem s_never : QS X cl W st tNever (fun _ _ => False) := ⟨ps_never, fun H0 d D' ε σ H en q h => h⟩
/-! ### x = e -/
def gSet (i : Nat) (f : Dv → Res D) : DS := fun d ε => (f (view ε)).on (fun x => i < ε.length ∧ calm x = true ∧ d.nx (ε.set i (some (.fz x)))) (fun c => d.ex c ε)
theorem s_set {i : Nat} {x : Str} (he : QF X cl W e te f) (hN : X.N.Nodup) (hi : X.N[i]? = some x) (hx : Loc X.env.scope x) (hs : swapsWith e (some (.Name x pos')) pos.line X.env = pure false := by rfl) (hf : X.fn x = true ∨ X.env.scope.names.lookup x = some .local := by first | exact .inl rfl | exact .inr rfl | assumption) :
    QS X cl W (.Assign [.Name x pos'] e pos) (tAsg te (gName i)) (gSet i f) := by
  refine ⟨ps_set hN hi hx he.pe hs hf, fun H0 d D' ε σ H en q h => ?_⟩
  show te σ H _
  refine he.sim.runS en q h fun y v H' _ sm rp fr hk => ?_
  exact en.nx _ _ _ (q.put hk.1 hk.2.1 sm rp fr) hk.2.2
def notScr : D → Bool
  | .scr _ => false
  | _ => true
def gOwn (i : Nat) (f : Dv → Res D) : DS := fun d ε => (f (view ε)).on (fun x => i < ε.length ∧ isBox x = true ∧ notScr x = true ∧ calm x = true ∧ d.nx (ε.set i (some (.ow x)))) (fun c => d.ex c ε)
theorem own_sim {i : Nat} (s : SimF X.K cl W te f) : SimS X.K cl W (tAsg te (gName i)) (gOwn i f) := by
  intro H0 d D' ε σ H en q h
  show te σ H _
  refine s.runS en q h fun y v H' _ sm rp fr hk => ?_
  exact en.nx _ _ _ (q.putOwn hk.1 hk.2.1 (fun ns z => by subst z; exact Bool.noConfusion hk.2.2.1) hk.2.2.2.1 sm rp fr) hk.2.2.2.2
theorem s_own {i : Nat} {x : Str} (he : QF X cl W e te f) (hN : X.N.Nodup) (hi : X.N[i]? = some x) (hx : Loc X.env.scope x) (hs : swapsWith e (some (.Name x pos')) pos.line X.env = pure false := by rfl) (hf : X.fn x = true ∨ X.env.scope.names.lookup x = some .local := by first | exact .inl rfl | exact .inr rfl | assumption) :
    QS X cl W (.Assign [.Name x pos'] e pos) (tAsg te (gName i)) (gOwn i f) := ⟨ps_set hN hi hx he.pe hs hf, own_sim he.sim⟩
theorem set_sim {i : Nat} (s : SimF X.K cl W te f) : SimS X.K cl W (tAsg te (gName i)) (gSet i f) := by
  intro H0 d D' ε σ H en q h
  show te σ H _
  refine s.runS en q h fun y v H' _ sm rp fr hk => ?_
  exact en.nx _ _ _ (q.put hk.1 hk.2.1 sm rp fr) hk.2.2
/-! ### if, return, an expression by itself -/
def gIf (f : Dv → Res Bool) (g k : DS) : DS := fun d ε => (f (view ε)).on (fun b => if b = true then g d ε else k d ε) (fun c => d.ex c ε)
theorem s_if (hc : QT X cl W c tc fb) (ha : QSs X cl W sa t g) (hb : QSs X cl W sb u k) : QS X cl W (.If c sa sb pos) (tIfS tc t u) (gIf fb g k) := by
  refine ⟨ps_if hc.pe ha.ps hb.ps, fun H0 d D' ε σ H en q h => ?_⟩
  show tc σ H _
  refine hc.sim.runS en q h fun b H' _ sm hk => ?_
  cases b with
  | true => exact ha.sim H0 d D' ε σ H' en (q.mono sm) hk
  | false => exact hb.sim H0 d D' ε σ H' en (q.mono sm) hk
def gRet (f : Dv → Res D) : DS := fun d ε => (f (view ε)).on d.rt (fun c => d.ex c ε)
theorem s_ret (he : QF X cl W e te f) : QS X cl W (.Return (some e) pos) (tRet te) (gRet f) := by
  refine ⟨ps_ret he.pe, fun H0 d D' ε σ H en q h => ?_⟩
  show te σ H _
  refine he.sim.runS en q h fun y v H' _ sm rp fr hk => ?_
  exact en.rt y v H' (q.1.same.trans sm) rp (fr.back q.1.same) hk
/-- return of a name that holds a list of the body's own -/
def gRetOwn (i : Nat) : DS := fun d ε => ∃ x, ε[i]? = some (some (.ow x)) ∧ d.rt x
theorem s_retOwn {i : Nat} (he : PE X e (tVar i)) : QS X cl W (.Return (some e) pos) (tRet (tVar i)) (gRetOwn i) := by
  refine ⟨ps_ret he, fun H0 d D' ε σ H en q h => ?_⟩
  obtain ⟨x, hx, hr⟩ := h
  obtain ⟨M, t1, b, f0, o, n⟩ := q.1
  obtain ⟨a, h1, h2, h3, h4, h5⟩ := o i x hx
  refine ⟨_, h1, en.rt x _ H q.1.same h5 (fun _ => ⟨a, rfl, ?_⟩) hr⟩
  cases z : H0 a with
  | none => rfl
  | some o =>
    have := t1 a o z
    unfold hide at this
    rw [if_pos h2] at this
    cases this
theorem s_retN : QS X cl W (.Return none pos) tRetN (fun d ε => d.rt .none) := ⟨ps_retN, fun H0 d D' ε σ H en q h => en.rt .none _ H q.1.same rpn (fresh_no rfl) h⟩
def gDrop (f : Dv → Res D) : DS := fun d ε => (f (view ε)).on (fun _ => d.nx ε) (fun c => d.ex c ε)
theorem s_expr (he : QE X cl W e te f) (hs : swapsWith e none pos.line X.env = pure false := by rfl) : QS X cl W (.Expr e pos) (tDrop te) (gDrop f) := by
  refine ⟨ps_expr he.pe hs, fun H0 d D' ε σ H en q h => ?_⟩
  show te σ H _
  refine he.sim.runS en q h fun y v H' _ sm rp hk => ?_
  exact en.nx _ _ _ (q.mono sm) hk
/-- an own list, from now on read only: a step of thought before a statement -/
def gFz (i : Nat) (g : DS) : DS := fun d ε => ∃ x, ε[i]? = some (some (.ow x)) ∧ g d (ε.set i (some (.fz x)))
theorem fz {i : Nat} (h : QS X cl W st t g) : QS X cl W st t (gFz i g) := by
  refine ⟨h.ps, fun H0 d D' ε σ H en q hh => ?_⟩
  obtain ⟨x, hx, hg⟩ := hh
  exact h.sim H0 d D' _ σ H en (q.freeze hx) hg
/-! ### raise -/
theorem s_raise {t0 : L2.St → Hp → XK → Prop} {n : Nat} (h : PS X st (fun _ σ H => t0 σ H fun cls d H' => W cls d σ H')) (ht : ∀ σ H Q, Q (.ref (cl n)) none H → t0 σ H Q) : QS X cl W st (fun _ σ H => t0 σ H fun cls d H' => W cls d σ H') (fun d ε => d.ex n ε) :=
  ⟨h, fun H0 d D' ε σ H en q hh => ht σ H _ (en.ex n ε σ H q hh)⟩
/-! ### while -/
def gWhile (f : Dv → Res Bool) (g : DS) : DS := fun d ε => ∃ I : Nat → Env → Prop, (∃ m, I m ε) ∧ ∀ m ε', I m ε' →
  (f (view ε')).on (fun b => if b = true then ∃ N : Env → Prop, (∀ ε2, N ε2 → ∃ m', m' < m ∧ I m' ε2) ∧ g { d with nx := N, ct := N, bk := d.nx } ε' else d.nx ε') (fun c => d.ex c ε')
theorem s_while (hp : PassesOwn (model X.prog X.w) X.A X.env X.xe) (hc : QT X cl W c tc fb) (hb : QSs X cl W sa t g) : QS X cl W (.While c sa [] pos) (tWhile tc t) (gWhile fb g) := by
  refine ⟨ps_while hp hc.pe hb.ps, fun H0 d D' ε σ H en q h => ?_⟩
  obtain ⟨I, ⟨m0, i0⟩, step⟩ := h
  refine ⟨fun m σ' H' => ∃ ε', SQ X.K H0 ε' σ' H' ∧ I m ε', ⟨m0, ε, q, i0⟩, fun m σ' H' hw => ?_⟩
  obtain ⟨ε', q', i'⟩ := hw
  refine hc.sim.runS en q' (step m ε' i') fun b H1 _ sm hk => ?_
  cases b with
  | true =>
    obtain ⟨N, hN, hg⟩ := hk
    show ∃ N : L2.St → Hp → Prop, _
    refine ⟨fun σ2 H2 => ∃ ε2, SQ X.K H0 ε2 σ2 H2 ∧ N ε2, fun σ2 H2 ⟨ε2, q2, n2⟩ => ?_, ?_⟩
    · obtain ⟨m', hm, im⟩ := hN ε2 n2
      exact ⟨m', hm, ε2, q2, im⟩
    · exact hb.sim H0 { d with nx := N, ct := N, bk := d.nx } _ ε' σ' H1 ⟨fun ε σ H a b => ⟨ε, a, b⟩, en.rt, en.ex, en.nx, fun ε σ H a b => ⟨ε, a, b⟩⟩ (q'.mono sm) hg
  | false => exact en.nx _ _ _ (q'.mono sm) hk
end
end DL
namespace DL
open PySem L2
/-- J gives the data xs, one after the other, while what stands in B stands -/
def WalkD (K : Fg) (B : Hp) (J : It) (xs : List D) : Prop := ∃ (G : Hp → Prop) (Y : Nat → Hp → V → Hp → Prop), Walk J xs.length G Y ∧ (∀ H, Same B H → G H) ∧
  ∀ i H x H', i < xs.length → Same B H → Y i H x H' → Same H H' ∧ ∃ d, xs[i]? = some d ∧ Rp K H' d x
theorem WalkD.mono {K : Fg} {B B' : Hp} {J : It} {xs : List D} (s : Same B B') (h : WalkD K B J xs) : WalkD K B' J xs := by
  obtain ⟨G, Y, w, g, y⟩ := h
  exact ⟨G, Y, w, fun H e => g H (s.trans e), fun i H x H' hi e => y i H x H' hi (s.trans e)⟩
def SimI (K : Fg) (cl : Nat → Addr) (W : WX) (wi : TI) (f : Dv → Res (List D)) : Prop := ∀ (δ : Dv) (σ : L2.St) (H : Hp) (R : It → Hp → Prop), EnvD K H σ δ →
  (f δ).on (fun xs => ∀ J H1, Same H H1 → (∀ M : List Addr, (∀ a ∈ M, Boxy H a) → WalkD K (hide H1 M) J xs) → R J H1) (fun c => ∀ H', Same H H' → W (.ref (cl c)) none σ H') → wi σ H R
/-- .. within an expression, where nothing changes -/
def SimJ (K : Fg) (cl : Nat → Addr) (W : WX) (wi : TI) (f : Dv → Res (List D)) : Prop := ∀ (δ : Dv) (σ : L2.St) (H : Hp) (R : It → Hp → Prop), EnvD K H σ δ →
  (f δ).on (fun xs => ∀ J H1, Same H H1 → WalkD K H1 J xs → R J H1) (fun c => ∀ H', Same H H' → W (.ref (cl c)) none σ H') → wi σ H R
structure QI (X : Cx) (cl : Nat → Addr) (W : WX) (tg e : Expr) (wi : TI) (f : Dv → Res (List D)) : Prop where
  pi : PI X tg e wi
  sim : SimI X.K cl W wi f
structure QJ (X : Cx) (cl : Nat → Addr) (W : WX) (tg e : Expr) (wi : TI) (f : Dv → Res (List D)) : Prop where
  pi : PI X tg e wi
  sim : SimJ X.K cl W wi f
theorem QI.qj {X : Cx} {cl : Nat → Addr} {W : WX} {tg e : Expr} {wi : TI} {f : Dv → Res (List D)} (h : QI X cl W tg e wi f) : QJ X cl W tg e wi f := by
  refine ⟨h.pi, fun δ σ H R en po => h.sim δ σ H R en ?_⟩
  cases r : f δ with
  | ok xs => rw [r] at po; exact fun J H1 s w => po J H1 s (WalkD.mono (hide_same _ _) (w [] fun a ha => by cases ha))
  | exc c => rw [r] at po; exact po
  | stuck => rw [r] at po; exact po
/-! ### a list, a tuple, a text -/
def iAny (K : Fg) (te : TE) : TI := fun σ H R => te σ H fun x H1 => (∃ a xs, x = .ref a ∧ SqL K H1 a xs ∧ R (Itl K a) H1) ∨ (∃ a xs, x = .ref a ∧ SqT K H1 a xs ∧ R (Itt K a) H1) ∨ ∃ z, x = .str z ∧ R (Its z) H1
theorem pi_any {X : Cx} {tg e : Expr} {te : TE} (he : PE X e te) : PI X tg e (iAny X.K te) := by
  refine ⟨fun pins s σ H R I h => ?_⟩
  refine thn (he.run pins s σ H _ I h) fun v s1 ⟨x, H1, I1, r1, q1⟩ => ?_
  rcases q1 with ⟨a, xs, e, hq, q⟩ | ⟨a, xs, e, hq, q⟩ | ⟨x, e, q⟩
  · subst e
    cases r1
    obtain ⟨its, rv, p, hz⟩ := I1.list hq
    refine wpAny_pyIter_list p.isList ?_
    refine ⟨s1.heap.objs.size, [s1.heap.objs.size], _, _, H1, rfl, I1.kept (t' := s1.toks) fun b o e => Heap.get?_push_of_some _ e, turn_list a _, ⟨_, Heap.get?_push_size _ rfl, rfl, rfl⟩, fun b hb => ?_, q⟩
    have e : b = s1.heap.objs.size := by simpa using hb
    subst e
    exact I1.fpOk (Nat.le_refl _) (I1.hok.fresh (Nat.le_refl _))
  · subst e
    cases r1
    obtain ⟨its, rv, p, hz⟩ := I1.tuple hq
    refine wpAny_pyIter_tuple (show s1.heap.IsTuple a its.toArray from p) ?_
    refine ⟨s1.heap.objs.size, [s1.heap.objs.size], _, _, H1, rfl, I1.kept (t' := s1.toks) fun b o e => Heap.get?_push_of_some _ e, turn_tuple a _, ⟨_, Heap.get?_push_size _ rfl, rfl, rfl⟩, fun b hb => ?_, q⟩
    have e : b = s1.heap.objs.size := by simpa using hb
    subst e
    exact I1.fpOk (Nat.le_refl _) (I1.hok.fresh (Nat.le_refl _))
  · subst e
    obtain ⟨t, rfl⟩ := r1
    cases ha : x.cps.all (· < 128)
    · exact wpAny_pyIter_wide ha (pi_one (tk := s1.toks) I1 _ (turn_str _ x t "str_iterator" (.inr rfl)) ⟨_, Heap.get?_push_size _ rfl, rfl, rfl⟩ q)
    · exact wpAny_pyIter_ascii ha (pi_one (tk := s1.toks) I1 _ (turn_str _ x t "str_ascii_iterator" (.inl rfl)) ⟨_, Heap.get?_push_size _ rfl, rfl, rfl⟩ q)
/-- the items of a datum -/
def items : D → Res (List D)
  | .list l => .ok l
  | .tuple l => .ok l
  | .str l => .ok (l.map fun c => .str [c])
  | _ => .stuck
theorem items_ne (d : D) (c : Nat) : items d ≠ .exc c := by
  unfold items
  split <;> (intro z; cases z)
theorem walkD_t {K : Fg} {B : Hp} {a : Addr} {xs : List V} {l : List D} (h : SqT K B a xs) (r : RpAll K B l xs) : WalkD K B (Itt K a) l := by
  have w := walk_tup (K := K) (a := a) (xs := xs)
  rw [r.length] at w
  refine ⟨_, _, w, fun H s => same_t s h, fun i H x H' hi s y => ?_⟩
  obtain ⟨rfl, hx⟩ := y
  obtain ⟨d, h1, h2⟩ := r.get hx
  exact ⟨Same.refl _, d, h1, Rp.mono s _ _ h2⟩
theorem walkD_l {K : Fg} {B : Hp} {a : Addr} {xs : List V} {l : List D} (h : SqL K B a xs) (r : RpAll K B l xs) : WalkD K B (Itl K a) l := by
  have w := walk_list (K := K) (a := a) (xs := xs)
  rw [r.length] at w
  refine ⟨_, _, w, fun H s => same_l s h, fun i H x H' hi s y => ?_⟩
  obtain ⟨rfl, hx⟩ := y
  obtain ⟨d, h1, h2⟩ := r.get hx
  exact ⟨Same.refl _, d, h1, Rp.mono s _ _ h2⟩
theorem walkD_s {K : Fg} {B : Hp} (l : List Nat) : WalkD K B (Its (S l)) (l.map fun c => .str [c]) := by
  have w := walk_str (z := S l)
  have e : (S l).cps.size = (l.map fun c => (D.str [c])).length := by simp [S]
  rw [e] at w
  refine ⟨_, _, w, fun H s => trivial, fun i H x H' hi s y => ?_⟩
  obtain ⟨rfl, c, hc, rfl⟩ := y
  refine ⟨Same.refl _, .str [c], ?_, by unfold Rp; rfl⟩
  have e2 : l[i]? = some c := by simpa [S] using hc
  rw [List.getElem?_map, e2]
  rfl
section
variable {X : Cx} {cl : Nat → Addr} {W : WX} {tg e : Expr} {te : TE} {f : Dv → Res D}
def dItems (f : Dv → Res D) : Dv → Res (List D) := fun δ => (f δ).bind items
/-- items of a list: all without lists within -/
def itemsF : D → Res (List D)
  | .list l => Res.need (immAll l = true) (.ok l)
  | .tuple l => Res.need (immAll l = true) (.ok l)
  | .str l => .ok (l.map fun c => .str [c])
  | _ => .stuck
theorem i_any (he : QF X cl W e te f) : QI X cl W tg e (iAny X.K te) (fun δ => (f δ).bind itemsF) := by
  refine ⟨pi_any he.pe, fun δ σ H R en po => ?_⟩
  show te σ H _
  refine he.sim δ σ H _ en ?_
  change ((f δ).bind itemsF).on _ _ at po
  cases r : f δ with
  | exc c => rw [r] at po; exact po
  | stuck => rw [r] at po; exact po
  | ok d =>
    rw [r, Res.ok_bind] at po
    intro v H1 s rp fr
    cases d with
    | list l =>
      obtain ⟨im, po⟩ := need_on po
      obtain ⟨a, xs, rfl, ha, hx⟩ := rp_list rp
      obtain ⟨p, hp, hn⟩ := fr rfl
      cases hp
      refine .inl ⟨a, xs, rfl, Or.inl (Or.inl ha), po _ H1 s fun M bM => ?_⟩
      have na : a ∉ M := fun hm => by
        rcases bM a hm with ⟨_, e⟩ | ⟨_, e⟩ | ⟨_, e⟩ <;> (rw [hn] at e; cases e)
      exact walkD_l (Or.inl (Or.inl (by rw [hide_ne na]; exact ha))) (RpAll.hide (fun b hb => (bM b hb).mono s) l xs im hx)
    | tuple l =>
      obtain ⟨im, po⟩ := need_on po
      obtain ⟨a, xs, rfl, ha, hx⟩ := rp_tup rp
      exact .inr (.inl ⟨a, xs, rfl, ha, po _ H1 s fun M bM => walkD_t (hide_t (fun b hb => (bM b hb).mono s) ha) (RpAll.hide (fun b hb => (bM b hb).mono s) l xs im hx)⟩)
    | str l =>
      obtain rfl := rp_str rp
      exact .inr (.inr ⟨S l, rfl, po _ H1 s fun M _ => walkD_s l⟩)
    | _ => exact po.elim
theorem j_any (he : QE X cl W e te f) : QJ X cl W tg e (iAny X.K te) (dItems f) := by
  refine ⟨pi_any he.pe, fun δ σ H R en po => ?_⟩
  show te σ H _
  refine he.sim δ σ H _ en ?_
  change ((f δ).bind items).on _ _ at po
  cases r : f δ with
  | exc c => rw [r] at po; exact po
  | stuck => rw [r] at po; exact po
  | ok d =>
    rw [r, Res.ok_bind] at po
    intro v H1 s rp
    cases d with
    | list l =>
      obtain ⟨a, xs, rfl, ha, hx⟩ := rp_list rp
      exact .inl ⟨a, xs, rfl, Or.inl (Or.inl ha), po _ H1 s (walkD_l (Or.inl (Or.inl ha)) hx)⟩
    | tuple l =>
      obtain ⟨a, xs, rfl, ha, hx⟩ := rp_tup rp
      exact .inr (.inl ⟨a, xs, rfl, ha, po _ H1 s (walkD_t ha hx)⟩)
    | str l =>
      obtain rfl := rp_str rp
      exact .inr (.inr ⟨S l, rfl, po _ H1 s (walkD_s l)⟩)
    | _ => exact po.elim
/-! ### range -/
def rng (lo : Int) (n : Nat) : List D := (List.range n).map fun (i : Nat) => D.int (lo + (i : Int))
theorem rng_len (lo : Int) (n : Nat) : (rng lo n).length = n := by simp [rng]
theorem rng_get {lo : Int} {n i : Nat} (h : i < n) : (rng lo n)[i]? = some (.int (lo + (i : Int))) := by
  unfold rng
  rw [List.getElem?_map, List.getElem?_range h]
  rfl
def iR1 : List D → Res (List D)
  | [.int j] => Res.need (j.natAbs ≤ big) (.ok (rng 0 j.toNat))
  | _ => .stuck
def iR2 : List D → Res (List D)
  | [.int i, .int j] => Res.need (i.natAbs ≤ big ∧ j.natAbs ≤ big) (.ok (rng i (j - i).toNat))
  | _ => .stuck
theorem walkD_r {K : Fg} {B : Hp} (lo : Int) (n : Nat) : WalkD K B (Itr lo n) (rng lo n) := by
  have w := walk_range (lo := lo) (n := n)
  refine ⟨_, _, by rw [rng_len]; exact w, fun H s => trivial, fun i H x H' hi s y => ?_⟩
  obtain ⟨rfl, rfl⟩ := y
  rw [rng_len] at hi
  exact ⟨Same.refl _, _, rng_get hi, rpi _⟩
variable {ta : TA} {gs : Dv → Res (List D)} {a b : Expr} {p pos : Pos}
theorem i_range1 (hm : X.mg "range" = none) (ha : QA X cl W [a] ta gs) (hg : Gl X "range" := by rfl) (hs : starEach [a] X.env = [(false, eval a X.env)] := by rfl) : QI X cl W tg (.Call (.Name "range" p) [a] [] pos) (iRng1 ta) (fun δ => (gs δ).bind iR1) := by
  refine ⟨pi_range1 hg hm ha.pe hs, fun δ σ H R en po => ?_⟩
  show ta σ H _
  refine ha.sim δ σ H _ en ?_
  change ((gs δ).bind iR1).on _ _ at po
  cases r : gs δ with
  | exc c => rw [r] at po; exact po
  | stuck => rw [r] at po; exact po
  | ok ds =>
    rw [r, Res.ok_bind] at po
    intro vs H1 s rp
    unfold iR1 at po
    split at po
    · obtain ⟨hc, po⟩ := need_on po
      unfold big at hc
      unfold RpAll at rp
      obtain ⟨v, q, rfl, hv, hq⟩ := rp
      unfold RpAll at hq
      subst hq
      obtain rfl := rp_int hv
      exact ⟨_, rfl, by omega, by omega, po _ H1 s fun M _ => walkD_r 0 _⟩
    · exact po.elim
theorem i_range2 (hm : X.mg "range" = none) (ha : QA X cl W [a, b] ta gs) (hg : Gl X "range" := by rfl) (hs : starEach [a, b] X.env = [(false, eval a X.env), (false, eval b X.env)] := by rfl) (hs2 : starEach [b] X.env = [(false, eval b X.env)] := by rfl) :
    QI X cl W tg (.Call (.Name "range" p) [a, b] [] pos) (iRng2 ta) (fun δ => (gs δ).bind iR2) := by
  refine ⟨pi_range2 hg hm ha.pe hs hs2, fun δ σ H R en po => ?_⟩
  show ta σ H _
  refine ha.sim δ σ H _ en ?_
  change ((gs δ).bind iR2).on _ _ at po
  cases r : gs δ with
  | exc c => rw [r] at po; exact po
  | stuck => rw [r] at po; exact po
  | ok ds =>
    rw [r, Res.ok_bind] at po
    intro vs H1 s rp
    unfold iR2 at po
    split at po
    · obtain ⟨hc, po⟩ := need_on po
      unfold big at hc
      unfold RpAll at rp
      obtain ⟨v, q, rfl, hv, hq⟩ := rp
      unfold RpAll at hq
      obtain ⟨v2, q2, rfl, hv2, hq2⟩ := hq
      unfold RpAll at hq2
      subst hq2
      obtain rfl := rp_int hv
      obtain rfl := rp_int hv2
      exact ⟨_, _, rfl, ⟨by omega, by omega, by omega, by omega⟩, po _ H1 s fun M _ => walkD_r _ _⟩
    · exact po.elim
/-! ### targets: a name; names in a tuple -/
/-- the target takes the datum -/
def SimG (K : Fg) (g : TG) (k : D → Env → Option Env) : Prop := ∀ (H0 H H' : Hp) (ε ε' : Env) (σ : L2.St) (d : D) (v : V) (Q : L2.St → Hp → Prop), SQ K H0 ε σ H → Same H H' → Rp K H' d v → imm d = true → k d ε = some ε' →
  (∀ σ', SQ K H0 ε' σ' H' → Q σ' H') → g v σ H' Q
structure QG (X : Cx) (tg : Expr) (g : TG) (k : D → Env → Option Env) : Prop where
  pg : PG X tg g
  sim : SimG X.K g k
theorem calm_imm {d : D} (h : imm d = true) : calm d = true := by
  cases d with
  | list l => unfold imm at h; cases h
  | dicK _ _ => unfold imm at h; cases h
  | dicT _ _ => unfold imm at h; cases h
  | _ => exact h
theorem imm_box {d : D} (h : imm d = true) : isBox d = false := by
  cases d with
  | list l => unfold imm at h; cases h
  | dicK _ _ => unfold imm at h; cases h
  | dicT _ _ => unfold imm at h; cases h
  | scr _ => unfold imm at h; cases h
  | _ => rfl
def kName (i : Nat) : D → Env → Option Env := fun d ε => if i < ε.length then some (ε.set i (some (.fz d))) else none
theorem g_name {i : Nat} {x : Str} (hN : X.N.Nodup) (hi : X.N[i]? = some x) (hx : Loc X.env.scope x) (hf : X.fn x = true ∨ X.env.scope.names.lookup x = some .local := by first | exact .inl rfl | exact .inr rfl | assumption) : QG X (.Name x pos) (gName i) (kName i) := by
  refine ⟨pg_name hN hi hx hf, fun H0 H H' ε ε' σ d v Q q s r im k h => ?_⟩
  unfold kName at k
  split at k
  · cases k
    exact h _ (q.put (by assumption) (calm_imm im) s r (fresh_no (imm_box im)))
  · cases k
def SimGs (K : Fg) (g : TGs) (k : List D → Env → Option Env) : Prop := ∀ (H0 H : Hp) (ε ε' : Env) (σ : L2.St) (ds : List D) (vs : List V) (Q : L2.St → Hp → Prop), SQ K H0 ε σ H → RpAll K H ds vs → immAll ds = true → k ds ε = some ε' →
  (∀ σ', SQ K H0 ε' σ' H → Q σ' H) → g vs σ H Q
structure QGs (X : Cx) (tgs : List Expr) (g : TGs) (k : List D → Env → Option Env) : Prop where
  pg : PGs X tgs g
  sim : SimGs X.K g k
def kNil : List D → Env → Option Env := fun ds ε => if ds.isEmpty then some ε else none
def kCons (k : D → Env → Option Env) (ks : List D → Env → Option Env) : List D → Env → Option Env := fun ds ε => match ds with
  | d :: r => (k d ε).bind (ks r)
  | [] => none
theorem gs_nil : QGs X [] gNil kNil := by
  refine ⟨pgs_nil, fun H0 H ε ε' σ ds vs Q q r im k h => ?_⟩
  unfold kNil at k
  cases ds with
  | nil => unfold RpAll at r; cases k; exact ⟨r, h σ q⟩
  | cons _ _ => cases k
theorem gs_cons {e : Expr} {es : List Expr} {t : TG} {u : TGs} {k : D → Env → Option Env} {ks : List D → Env → Option Env} (h1 : QG X e t k) (h2 : QGs X es u ks) (hs : (assignEach (e :: es) X.env).map (·.2) = assign e X.env :: (assignEach es X.env).map (·.2) := by rfl) : QGs X (e :: es) (gCons t u) (kCons k ks) := by
  refine ⟨pgs_cons h1.pg h2.pg hs, fun H0 H ε ε' σ ds vs Q q r im kk h => ?_⟩
  cases ds with
  | nil => cases kk
  | cons d ds =>
    unfold RpAll at r
    unfold immAll at im
    rw [Bool.and_eq_true] at im
    obtain ⟨v, w, rfl, r1, r2⟩ := r
    refine ⟨v, w, rfl, ?_⟩
    change (k d ε).bind (ks ds) = some ε' at kk
    cases e1 : k d ε with
    | none => rw [e1] at kk; cases kk
    | some ε1 =>
      rw [e1] at kk
      exact h1.sim H0 H H ε ε1 σ d v _ q (Same.refl H) r1 im.1 e1 fun σ1 q1 => h2.sim H0 H ε1 ε' σ1 ds w Q q1 r2 im.2 kk h
def kTup (ks : List D → Env → Option Env) : D → Env → Option Env := fun d ε => match d with
  | .tuple l => ks l ε
  | _ => none
def gTupN (K : Fg) (n : Nat) (t : TGs) : TG := gTup K n t
theorem g_tup {es : List Expr} {kk n : Nat} {t : TGs} {ks : List D → Env → Option Env} (hc : X.calm = true) (h : QGs X es t ks) (hn : (assignEach es X.env).length = n := by rfl) (hst : (assignEach es X.env).findIdx? (·.1) = none := by rfl)
    (hl : ∀ ds ε, ds.length ≠ n → ks ds ε = none := by intro ds ε h; match ds, h with | _, _ => rfl) : QG X (.Tuple es kk pos) (gTup X.K n t) (kTup ks) := by
  refine ⟨pg_tup hc h.pg hn hst, fun H0 H H' ε ε' σ d v Q q s r im k hq => ?_⟩
  cases d with
  | tuple l =>
    obtain ⟨a, xs, rfl, ha, hx⟩ := rp_tup r
    change ks l ε = some ε' at k
    refine ⟨a, xs, rfl, ha, ?_, ?_⟩
    · rw [hx.length]
      by_cases hh : l.length = n
      · exact hh
      · rw [hl l ε hh] at k; cases k
    · unfold imm at im
      exact h.sim H0 H' ε ε' σ l xs Q (q.mono s) hx im k hq
  | _ => cases k
/-! ### for -/
def gFor (f : Dv → Res (List D)) (k : D → Env → Option Env) (g : DS) : DS := fun d ε => (f (view ε)).on (fun xs => ∃ I : Nat → Env → Prop, I 0 ε ∧
  (∀ i x ε', xs[i]? = some x → I i ε' → imm x = true ∧ ∃ ε2, k x ε' = some ε2 ∧ g { d with nx := I (i + 1), ct := I (i + 1), bk := d.nx } ε2) ∧ ∀ ε', I xs.length ε' → d.nx ε') (fun c => d.ex c ε)
theorem s_for {iter : Expr} {body : List Stmt} {wi : TI} {g : TG} {tb : TS} {fi : Dv → Res (List D)} {k : D → Env → Option Env} {gb : DS} (hp : PassesOwn (model X.prog X.w) X.A X.env X.xe) (hc : X.calm = true) (hi : QI X cl W tg iter wi fi) (hg : QG X tg g k) (hb : QSs X cl W body tb gb)
    (hs : ∀ x, foldedSetIterable iter X.env x = pure x := by intro _; rfl) : QS X cl W (.For tg iter body [] pos) (tFor wi g tb) (gFor fi k gb) := by
  refine ⟨ps_for hp hc hi.pi hg.pg hb.ps hs, fun H0 d D' ε σ H en q h => ?_⟩
  change (fi (view ε)).on _ _ at h
  show wi σ H _
  refine hi.sim (view ε) σ H _ q.env ?_
  cases r : fi (view ε) with
  | exc c => rw [r] at h; exact fun H' sm => en.ex c ε σ H' (q.mono sm) h
  | stuck => rw [r] at h; exact h.elim
  | ok xs =>
    rw [r] at h
    obtain ⟨I, i0, step, fin⟩ := h
    intro J H1 s w
    obtain ⟨⟨M, t1, b, f0, o, n⟩, len⟩ := id q
    obtain ⟨G, Y, wk, hG, hY⟩ := w M b
    have q1 : SQ X.K (hide H1 M) ε σ H1 := by
      obtain ⟨⟨M', t1', b', f0', o', n'⟩, len'⟩ : SQ X.K H0 ε σ H1 := q.mono s
      refine ⟨⟨M, Same.refl _, fun a ha => (b a ha).mono s, fun i d e => ?_, fun i d e => ?_, n⟩, len⟩
      · obtain ⟨v, h1, h2⟩ := f0 i d e
        exact ⟨v, h1, Rp.mono (hide_mono s) _ _ h2⟩
      · obtain ⟨a, h1, h2, h3, h4, h5⟩ := o i d e
        exact ⟨a, h1, h2, h3, h4, Rp.mono s _ _ h5⟩
    have sB : Same H0 (hide H1 M) := t1.trans (hide_mono s)
    have enB := en.raise sB
    refine for_it wk (fun i σ' H' => ∃ ε', SQ X.K (hide H1 M) ε' σ' H' ∧ I i ε') ⟨ε, q1, i0⟩ (fun i σ' H' _ ⟨ε', q', _⟩ => hG H' q'.1.same) (fun i x σ' H' H2 hi ⟨ε', q', i'⟩ y => ?_) (fun σ' H' ⟨ε', q', i'⟩ => ?_)
    · obtain ⟨sm, dd, hd, rp⟩ := hY i H' x H2 hi q'.1.same y
      obtain ⟨im, ε2, hk, hgb⟩ := step i dd ε' hd i'
      refine hg.sim (hide H1 M) H' H2 ε' ε2 σ' dd x _ q' sm rp im hk fun σ2 q2 => ?_
      exact hb.sim (hide H1 M) { d with nx := I (i + 1), ct := I (i + 1), bk := d.nx } _ ε2 σ2 H2 ⟨fun ε σ H a b => ⟨ε, a, b⟩, enB.rt, enB.ex, enB.nx, fun ε σ H a b => ⟨ε, a, b⟩⟩ q2 hgb
    · exact enB.nx _ _ _ q' (fin ε' i')
end
end DL
namespace DL
open PySem L2
/-! ### for over a name's list that is only read -/
def gForN (i : Nat) (k : D → Env → Option Env) (g : DS) : DS := fun d ε => ∃ y, ε[i]? = some (some (.fz y)) ∧ (items y).on (fun xs => ∃ I : Nat → Env → Prop, I 0 ε ∧
  (∀ i x ε', xs[i]? = some x → I i ε' → imm x = true ∧ ∃ ε2, k x ε' = some ε2 ∧ g { d with nx := I (i + 1), ct := I (i + 1), bk := d.nx } ε2) ∧ ∀ ε', I xs.length ε' → d.nx ε') (fun c => False)
theorem s_forN {X : Cx} {cl : Nat → Addr} {W : WX} {tg iter : Expr} {body : List Stmt} {g : TG} {tb : TS} {k : D → Env → Option Env} {gb : DS} {pos : Pos} {i : Nat} (hp : PassesOwn (model X.prog X.w) X.A X.env X.xe) (hc : X.calm = true) (hi : PE X iter (tVar i)) (hg : QG X tg g k) (hb : QSs X cl W body tb gb)
    (hs : ∀ x, foldedSetIterable iter X.env x = pure x := by intro _; rfl) : QS X cl W (.For tg iter body [] pos) (tFor (iAny X.K (tVar i)) g tb) (gForN i k gb) := by
  refine ⟨ps_for hp hc (pi_any hi) hg.pg hb.ps hs, fun H0 d D' ε σ H en q h => ?_⟩
  obtain ⟨y, hy, h⟩ := h
  obtain ⟨⟨M, t1, b, f0, o, n⟩, len⟩ := id q
  obtain ⟨v, hv, rv⟩ := f0 i y hy
  have q1 : SQ X.K (hide H M) ε σ H := ⟨⟨M, Same.refl _, b, f0, o, n⟩, len⟩
  have enB := en.raise t1
  have core : ∀ (J : It) (xs : List D), items y = .ok xs → WalkD X.K (hide H M) J xs → ∃ W : Nat → Nat → L2.St → Hp → Prop, (∃ m, W 0 m σ H) ∧ ∀ i m σ H, W i m σ H →
      (J.stop i H ∧ D'.nx σ H) ∨ (J.go i H ∧ ∃ N : L2.St → Hp → Prop, (∀ σ' H', N σ' H' → ∃ m', m' < m ∧ W (i + 1) m' σ' H') ∧ ∀ x H', J.yld i H x H' → g x σ H' fun σ2 H2 => tb { D' with nx := N, ct := N, bk := D'.nx } σ2 H2) := by
    intro J xs e w
    rw [e] at h
    obtain ⟨I, i0, step, fin⟩ := h
    obtain ⟨G, Y, wk, hG, hY⟩ := w
    refine for_it wk (fun i σ' H' => ∃ ε', SQ X.K (hide H M) ε' σ' H' ∧ I i ε') ⟨ε, q1, i0⟩ (fun i σ' H' _ ⟨ε', q', _⟩ => hG H' q'.1.same) (fun i x σ' H' H2 hi ⟨ε', q', i'⟩ y => ?_) (fun σ' H' ⟨ε', q', i'⟩ => ?_)
    · obtain ⟨sm, dd, hd, rp⟩ := hY i H' x H2 hi q'.1.same y
      obtain ⟨im, ε2, hk, hgb⟩ := step i dd ε' hd i'
      refine hg.sim (hide H M) H' H2 ε' ε2 σ' dd x _ q' sm rp im hk fun σ2 q2 => ?_
      exact hb.sim (hide H M) { d with nx := I (i + 1), ct := I (i + 1), bk := d.nx } _ ε2 σ2 H2 ⟨fun ε σ H a b => ⟨ε, a, b⟩, enB.rt, enB.ex, enB.nx, fun ε σ H a b => ⟨ε, a, b⟩⟩ q2 hgb
    · exact enB.nx _ _ _ q' (fin ε' i')
  refine ⟨v, hv, ?_⟩
  cases y with
  | list l =>
    obtain ⟨a, xs, rfl, ha, hx⟩ := rp_list rv
    exact .inl ⟨a, xs, rfl, Or.inl (Or.inl (hide_same _ _ _ _ ha)), core _ l rfl (walkD_l (Or.inl (Or.inl ha)) hx)⟩
  | tuple l =>
    obtain ⟨a, xs, rfl, ha, hx⟩ := rp_tup rv
    exact .inr (.inl ⟨a, xs, rfl, same_t (hide_same _ _) ha, core _ l rfl (walkD_t ha hx)⟩)
  | str l =>
    obtain rfl := rp_str rv
    exact .inr (.inr ⟨S l, rfl, core _ _ rfl (walkD_s l)⟩)
  | _ => exact h.elim
/-! ### a target's length -/
def LenK (n : Nat) (ks : List D → Env → Option Env) : Prop := ∀ ds ε, ds.length ≠ n → ks ds ε = none
theorem lenK_nil : LenK 0 kNil := fun ds ε h => by
  cases ds with
  | nil => exact (h rfl).elim
  | cons _ _ => rfl
theorem lenK_cons {n : Nat} {k : D → Env → Option Env} {ks : List D → Env → Option Env} (h : LenK n ks) : LenK (n + 1) (kCons k ks) := fun ds ε hl => by
  cases ds with
  | nil => rfl
  | cons d ds =>
    show (k d ε).bind (ks ds) = none
    cases e : k d ε with
    | none => rfl
    | some ε1 => exact h ds ε1 fun z => hl (by rw [List.length_cons, z])
/-! ### a comprehension's target, within an expression -/
def SimK (K : Fg) (vs : List Nat) (g : TG) (k : D → Dv → Option Dv) : Prop := ∀ (H : Hp) (σ : L2.St) (δ δ' : Dv) (d : D) (v : V) (Q : L2.St → Hp → Prop), EnvD K H σ δ → Rp K H d v → k d δ = some δ' →
  (∀ σ', EnvD K H σ' δ' → wipe σ' vs = wipe σ vs → Q σ' H) → g v σ H Q
def SimKs (K : Fg) (vs : List Nat) (g : TGs) (k : List D → Dv → Option Dv) : Prop := ∀ (H : Hp) (σ : L2.St) (δ δ' : Dv) (ds : List D) (us : List V) (Q : L2.St → Hp → Prop), EnvD K H σ δ → RpAll K H ds us → k ds δ = some δ' →
  (∀ σ', EnvD K H σ' δ' → wipe σ' vs = wipe σ vs → Q σ' H) → g us σ H Q
theorem wipe_set {σ : L2.St} {i : Nat} {a : Option V} : ∀ {vs : List Nat}, i ∈ vs → wipe (σ.set i a) vs = wipe σ vs
  | [], h => by cases h
  | v :: vs, h => by
    unfold wipe
    by_cases q : i ∈ vs
    · rw [wipe_set q]
    · have e : i = v := by
        rcases List.mem_cons.mp h with e | e
        · exact e
        · exact (q e).elim
      subst e
      have cm : ∀ ws : List Nat, i ∉ ws → wipe (σ.set i a) ws = (wipe σ ws).set i a := by
        intro ws
        induction ws with
        | nil => intro _; rfl
        | cons w ws ih =>
          intro hn
          have h1 : i ≠ w := fun z => hn (by rw [z]; exact List.mem_cons_self)
          have h2 : i ∉ ws := fun z => hn (List.mem_cons_of_mem _ z)
          unfold wipe
          rw [ih h2, List.set_comm _ _ h1]
      rw [cm vs q, List.set_set]
theorem wipe_wipe (σ : L2.St) (vs : List Nat) : wipe (wipe σ vs) vs = wipe σ vs := by
  have key : ∀ (us ws : List Nat) (τ : L2.St), (∀ u ∈ us, u ∈ ws) → wipe (wipe τ us) ws = wipe τ ws := by
    intro us
    induction us with
    | nil => intro ws τ _; rfl
    | cons u us ih =>
      intro ws τ h
      show wipe ((wipe τ us).set u none) ws = wipe τ ws
      rw [wipe_set (h u List.mem_cons_self)]
      exact ih ws τ fun x hx => h x (List.mem_cons_of_mem _ hx)
  exact key vs vs σ fun _ h => h
def wipeD (δ : Dv) : List Nat → Dv
  | [] => δ
  | v :: vs => (wipeD δ vs).set v none
theorem wipeD_env {K : Fg} {H : Hp} {σ : L2.St} {δ : Dv} (h : EnvD K H σ δ) : ∀ vs, EnvD K H (wipe σ vs) (wipeD δ vs)
  | [] => h
  | v :: vs => ⟨by unfold wipeD wipe; rw [List.length_set, List.length_set]; exact (wipeD_env h vs).1, fun i d e => by
    unfold wipeD at e
    unfold wipe
    rcases set_get e with ⟨_, _, z⟩ | ⟨z1, z2⟩
    · cases z
    · rw [set_out z1]
      exact (wipeD_env h vs).2 i d z2⟩
theorem wipeD_len (δ : Dv) : ∀ vs, (wipeD δ vs).length = δ.length
  | [] => rfl
  | v :: vs => by unfold wipeD; rw [List.length_set, wipeD_len δ vs]
def hName (i : Nat) : D → Dv → Option Dv := fun d δ => if i < δ.length then some (δ.set i (some d)) else none
theorem k_name {K : Fg} {vs : List Nat} {i : Nat} (hi : i ∈ vs) : SimK K vs (gName i) (hName i) := by
  intro H σ δ δ' d v Q en r k h
  unfold hName at k
  split at k
  · rename_i li
    cases k
    refine h _ ⟨by rw [List.length_set, List.length_set]; exact en.1, fun j e q => ?_⟩ (wipe_set hi)
    rcases set_get q with ⟨rfl, _, z⟩ | ⟨z1, z2⟩
    · cases z
      exact ⟨v, List.getElem?_set_self (Nat.lt_of_lt_of_le li en.1), r⟩
    · rw [set_out z1]
      exact en.2 j e z2
  · cases k
def hNil : List D → Dv → Option Dv := fun ds δ => if ds.isEmpty then some δ else none
def hCons (k : D → Dv → Option Dv) (ks : List D → Dv → Option Dv) : List D → Dv → Option Dv := fun ds δ => match ds with
  | d :: r => (k d δ).bind (ks r)
  | [] => none
def hTup (n : Nat) (ks : List D → Dv → Option Dv) : D → Dv → Option Dv := fun d δ => match d with
  | .tuple l => if l.length = n then ks l δ else none
  | _ => none
theorem ks_nil {K : Fg} {vs : List Nat} : SimKs K vs gNil hNil := by
  intro H σ δ δ' ds us Q en r k h
  unfold hNil at k
  cases ds with
  | nil => unfold RpAll at r; cases k; exact ⟨r, h σ en rfl⟩
  | cons _ _ => cases k
theorem ks_cons {K : Fg} {vs : List Nat} {t : TG} {u : TGs} {k : D → Dv → Option Dv} {ks : List D → Dv → Option Dv} (h1 : SimK K vs t k) (h2 : SimKs K vs u ks) : SimKs K vs (gCons t u) (hCons k ks) := by
  intro H σ δ δ' ds us Q en r kk h
  cases ds with
  | nil => cases kk
  | cons d ds =>
    unfold RpAll at r
    obtain ⟨v, w, rfl, r1, r2⟩ := r
    refine ⟨v, w, rfl, ?_⟩
    change (k d δ).bind (ks ds) = some δ' at kk
    cases e1 : k d δ with
    | none => rw [e1] at kk; cases kk
    | some δ1 =>
      rw [e1] at kk
      exact h1 H σ δ δ1 d v _ en r1 e1 fun σ1 en1 w1 => h2 H σ1 δ1 δ' ds w Q en1 r2 kk fun σ2 en2 w2 => h σ2 en2 (w2.trans w1)
theorem k_tup {K : Fg} {vs : List Nat} {n : Nat} {u : TGs} {ks : List D → Dv → Option Dv} (h2 : SimKs K vs u ks) : SimK K vs (gTup K n u) (hTup n ks) := by
  intro H σ δ δ' d v Q en r kk h
  cases d with
  | tuple l =>
    unfold hTup at kk
    dsimp only at kk
    split at kk
    · rename_i hl
      obtain ⟨a, xs, rfl, ha, hx⟩ := rp_tup r
      exact ⟨a, xs, rfl, ha, by rw [hx.length]; exact hl, h2 H σ δ δ' l xs Q en hx kk h⟩
    · cases kk
  | _ => cases kk
/-! ### the comprehension -/
def compM (f : D → Res (List D)) : List D → Res (List D)
  | [] => .ok []
  | x :: r => (f x).bind fun a => (compM f r).bind fun b => .ok (a ++ b)
/-- one item -/
def compOne (k : D → Dv → Option Dv) (ft : Dv → Res Bool) (fe : Dv → Res D) (δ : Dv) (x : D) : Res (List D) := match k x δ with
  | none => .stuck
  | some δ2 => (ft δ2).bind fun b => if b = true then (fe δ2).bind fun y => if imm y = true then .ok [y] else .stuck else .ok []
def dComp (vs : List Nat) (fi : Dv → Res (List D)) (k : D → Dv → Option Dv) (ft : Dv → Res Bool) (fe : Dv → Res D) : Dv → Res D := fun δ => (fi δ).bind fun xs => Res.need (xs.length ≤ big) ((compM (compOne k ft fe (wipeD δ vs)) xs).bind fun ys => .ok (.list ys))
/-- no exception within: where one would come nothing is said -/
def calmly {α : Type} (r : Res α) : Res α := match r with
  | .ok a => .ok a
  | _ => .stuck
theorem compOne_len {k : D → Dv → Option Dv} {ft : Dv → Res Bool} {fe : Dv → Res D} {δ : Dv} {x : D} {ys : List D} (h : compOne k ft fe δ x = .ok ys) : ys.length ≤ 1 := by
  unfold compOne at h
  split at h
  · cases h
  · cases q : ft _ with
    | exc c => rw [q] at h; cases h
    | stuck => rw [q] at h; cases h
    | ok b =>
      rw [q] at h
      cases b with
      | false => cases h; simp
      | true =>
        rw [Res.ok_bind, if_pos rfl] at h
        cases q2 : fe _ with
        | exc c => rw [q2] at h; cases h
        | stuck => rw [q2] at h; cases h
        | ok y =>
          rw [q2, Res.ok_bind] at h
          split at h
          · cases h; simp
          · cases h
theorem compM_app {f : D → Res (List D)} : ∀ {l m a b : List D}, compM f l = .ok a → compM f m = .ok b → compM f (l ++ m) = .ok (a ++ b)
  | [], m, a, b, h1, h2 => by cases h1; exact h2
  | x :: l, m, a, b, h1, h2 => by
    show (f x).bind (fun c => (compM f (l ++ m)).bind fun d => .ok (c ++ d)) = .ok (a ++ b)
    change (f x).bind (fun c => (compM f l).bind fun d => .ok (c ++ d)) = .ok a at h1
    cases q : f x with
    | exc c => rw [q] at h1; cases h1
    | stuck => rw [q] at h1; cases h1
    | ok c =>
      rw [q, Res.ok_bind] at h1
      cases q2 : compM f l with
      | exc c => rw [q2] at h1; cases h1
      | stuck => rw [q2] at h1; cases h1
      | ok d =>
        rw [q2] at h1
        cases h1
        rw [Res.ok_bind, compM_app q2 h2, Res.ok_bind, List.append_assoc]
theorem compM_take {f : D → Res (List D)} : ∀ {l ys : List D} (i : Nat), compM f l = .ok ys → ∃ zs, compM f (l.take i) = .ok zs
  | [], ys, i, h => by rw [List.take_nil]; exact ⟨ys, h⟩
  | x :: l, ys, 0, h => ⟨[], rfl⟩
  | x :: l, ys, i + 1, h => by
    change (f x).bind (fun c => (compM f l).bind fun d => .ok (c ++ d)) = .ok ys at h
    show ∃ zs, (f x).bind (fun c => (compM f (l.take i)).bind fun d => .ok (c ++ d)) = .ok zs
    cases q : f x with
    | exc c => rw [q] at h; cases h
    | stuck => rw [q] at h; cases h
    | ok c =>
      rw [q, Res.ok_bind] at h
      cases q2 : compM f l with
      | exc c => rw [q2] at h; cases h
      | stuck => rw [q2] at h; cases h
      | ok d =>
        obtain ⟨zs, hz⟩ := compM_take i q2
        exact ⟨c ++ zs, by rw [Res.ok_bind, hz]; rfl⟩
theorem compM_each {f : D → Res (List D)} : ∀ {l ys : List D} {i : Nat} {x : D}, compM f l = .ok ys → l[i]? = some x → ∃ a, f x = .ok a
  | [], ys, i, x, h, e => by cases e
  | z :: l, ys, i, x, h, e => by
    change (f z).bind (fun c => (compM f l).bind fun d => .ok (c ++ d)) = .ok ys at h
    cases q : f z with
    | exc c => rw [q] at h; cases h
    | stuck => rw [q] at h; cases h
    | ok c =>
      rw [q, Res.ok_bind] at h
      cases i with
      | zero => cases e; exact ⟨c, q⟩
      | succ i =>
        cases q2 : compM f l with
        | exc c => rw [q2] at h; cases h
        | stuck => rw [q2] at h; cases h
        | ok d => exact compM_each q2 e
theorem compM_len {f : D → Res (List D)} (hf : ∀ x a, f x = .ok a → a.length ≤ 1) : ∀ {l ys : List D}, compM f l = .ok ys → ys.length ≤ l.length
  | [], ys, h => by cases h; exact Nat.le_refl _
  | x :: l, ys, h => by
    change (f x).bind (fun c => (compM f l).bind fun d => .ok (c ++ d)) = .ok ys at h
    cases q : f x with
    | exc c => rw [q] at h; cases h
    | stuck => rw [q] at h; cases h
    | ok c =>
      rw [q, Res.ok_bind] at h
      cases q2 : compM f l with
      | exc c => rw [q2] at h; cases h
      | stuck => rw [q2] at h; cases h
      | ok d =>
        rw [q2] at h
        cases h
        have h1 := hf x c q
        have h2 := compM_len hf q2
        rw [List.length_append, List.length_cons]
        omega
theorem take_succ_get {α : Type} {l : List α} {i : Nat} {x : α} (h : l[i]? = some x) : l.take (i + 1) = l.take i ++ [x] := by
  rw [List.take_add_one, h]
  rfl
abbrev W0 : WX := fun _ _ _ _ => False
theorem lc_sim {X : Cx} {cl : Nat → Addr} {W : WX} {wi : TI} {fi : Dv → Res (List D)} {vs : List Nat} {g : TG} {k : D → Dv → Option Dv} {tt : TT} {ft : Dv → Res Bool} {te : TE} {fe : Dv → Res D}
    (si : SimJ X.K cl W wi fi) (sg : SimK X.K vs g k) (st : SimT X.K cl W0 tt ft) (se : SimE X.K cl W0 te fe) : SimF X.K cl W (tLc wi g tt te vs) (fun δ => (fi δ).bind fun xs => calmly (Res.need (xs.length ≤ big) ((compM (compOne k ft fe (wipeD δ vs)) xs).bind fun ys => .ok (.list ys)))) := by
  intro δ σ H Q en po
  show wi σ H _
  refine si δ σ H _ en ?_
  change ((fi δ).bind _).on _ _ at po
  cases r : fi δ with
  | exc c => rw [r] at po; exact po
  | stuck => rw [r] at po; exact po
  | ok xs =>
    rw [r, Res.ok_bind] at po
    intro J H1 s1 w Dl hD
    unfold Res.need at po
    split at po
    · rename_i hz
      cases r2 : compM (compOne k ft fe (wipeD δ vs)) xs with
      | exc c => rw [r2] at po; exact po.elim
      | stuck => rw [r2] at po; exact po.elim
      | ok ys =>
        rw [r2] at po
        change ∀ v H', Same H H' → Rp X.K H' (.list ys) v → Fresh H v (.list ys) → Q v H' at po
        obtain ⟨G, Y, wk, hG, hY⟩ := w
        have lenys := compM_len (fun x a h => compOne_len h) r2
        refine lc_it wk (fun i H' => Same H1 H' ∧ ∃ zs acc, compM (compOne k ft fe (wipeD δ vs)) (xs.take i) = .ok zs ∧ H' Dl = some (.lst acc) ∧ immAll zs = true ∧ RpAll X.K H' zs acc) ?_ (fun i H' _ p => hG H' p.1) (fun i x H2 H3 hi p y => ?_) (fun H' p => ?_)
        · refine ⟨same_new hD, [], [], by rw [List.take_zero]; rfl, upd_same, rfl, .nil⟩
        · obtain ⟨p1, zs, acc, hz2, hacc, imz, racc⟩ := p
          obtain ⟨sm, d, hd, rp⟩ := hY i H2 x H3 hi p1 y
          obtain ⟨one, hone⟩ := compM_each r2 hd
          have hone' := hone
          unfold compOne at hone
          split at hone
          · cases hone
          · rename_i δ2 hk
            have enw : EnvD X.K H3 (wipe σ vs) (wipeD δ vs) := wipeD_env (en.mono (s1.trans (p1.trans sm))) vs
            have base : Same H1 H3 := p1.trans sm
            · refine sg H3 (wipe σ vs) (wipeD δ vs) δ2 d x _ enw rp hk fun σ2 en2 w2 => ⟨by rw [w2, wipe_wipe], ?_⟩
              have fin : ∀ (H5 : Hp) (a : List D) (acc' : List V), Same H3 H5 ∨ (∃ H4, Same H3 H4 ∧ H5 = upd H4 Dl (.lst acc')) → compOne k ft fe (wipeD δ vs) d = .ok a → H5 Dl = some (.lst acc') → immAll (zs ++ a) = true → RpAll X.K H5 (zs ++ a) acc' →
                  Same H1 H5 ∧ ∃ zs acc, compM (compOne k ft fe (wipeD δ vs)) (xs.take (i + 1)) = .ok zs ∧ H5 Dl = some (.lst acc) ∧ immAll zs = true ∧ RpAll X.K H5 zs acc := by
                intro H5 a acc' hs h1 h2 h3 h4
                refine ⟨?_, zs ++ a, acc', ?_, h2, h3, h4⟩
                · rcases hs with hs | ⟨H4, hs, rfl⟩
                  · exact base.trans hs
                  · intro b o e
                    rw [upd_ne (ne_of_none e hD)]
                    exact hs b o (base b o e)
                · rw [take_succ_get hd]
                  refine compM_app hz2 ?_
                  show (compOne k ft fe (wipeD δ vs) d).bind _ = _
                  rw [h1]
                  show Res.ok (a ++ []) = Res.ok a
                  rw [List.append_nil]
              refine st δ2 σ2 H3 _ en2 ?_
              cases q : ft δ2 with
              | exc c => rw [q] at hone; cases hone
              | stuck => rw [q] at hone; cases hone
              | ok b =>
                rw [q, Res.ok_bind] at hone
                intro H4 s4
                cases b with
                | false =>
                  show Same H1 H4 ∧ _
                  have ha : one = [] := by cases hone; rfl
                  subst ha
                  refine fin H4 [] acc (.inl s4) hone' (s4 _ _ (sm _ _ hacc)) (by rw [List.append_nil]; exact imz) ?_
                  rw [List.append_nil]
                  exact RpAll.mono (sm.trans s4) _ _ racc
                | true =>
                  rw [if_pos rfl] at hone
                  show te σ2 H4 _
                  refine se δ2 σ2 H4 _ (en2.mono s4) ?_
                  cases q2 : fe δ2 with
                  | exc c => rw [q2] at hone; cases hone
                  | stuck => rw [q2] at hone; cases hone
                  | ok y =>
                    rw [q2, Res.ok_bind] at hone
                    split at hone
                    · rename_i imy
                      have ha : one = [y] := by cases hone; rfl
                      subst ha
                      intro yv H5 s5 ry
                      have s35 := s4.trans s5
                      have hacc5 : H5 Dl = some (.lst acc) := s35 _ _ (sm _ _ hacc)
                      have lz : zs.length ≤ xs.length := Nat.le_trans (compM_len (fun x a h => compOne_len h) hz2) (by rw [List.length_take]; omega)
                      have la : acc.length < sizeLine := by
                        rw [racc.length]
                        exact big_lt (Nat.le_trans lz hz)
                      refine ⟨acc, hacc5, la, ?_⟩
                      have imall : immAll (zs ++ [y]) = true := by
                        rw [immAll_iff] at imz ⊢
                        intro e he
                        rcases List.mem_append.mp he with he | he
                        · exact imz e he
                        · cases List.mem_singleton.mp he
                          exact imy
                      have box : ∀ a ∈ [Dl], Boxy H5 a := fun a ha => by cases List.mem_singleton.mp ha; exact .inl ⟨acc, hacc5⟩
                      have rall : RpAll X.K H5 (zs ++ [y]) (acc ++ [yv]) := (RpAll.mono (sm.trans s35) _ _ racc).append (.cons ry .nil)
                      have rh := RpAll.hide box _ _ imall rall
                      have eh : hide (upd H5 Dl (.lst (acc ++ [yv]))) [Dl] = hide H5 [Dl] := hide_upd (List.mem_singleton.mpr rfl)
                      rw [← eh] at rh
                      exact fin _ [y] (acc ++ [yv]) (.inr ⟨H5, s35, rfl⟩) hone' upd_same imall (RpAll.mono (hide_same _ _) _ _ rh)
                    · cases hone
        · obtain ⟨p1, zs, acc, hz2, hacc, imz, racc⟩ := p
          rw [List.take_length, r2] at hz2
          cases hz2
          refine po _ H' (s1.trans p1) (rpl hacc racc) (fresh_of (s1.free hD))
    · exact po.elim
end DL
namespace DL
open PySem L2
section
variable {X : Cx} {pins : List (Addr × Obj)} {σ : L2.St} {H : Hp} {s : Shared}
/-- the values that x, a list, a tuple or a text, gives -/
def ItemsV (K : Fg) (H : Hp) (x : V) (xs : List V) : Prop := (∃ a, x = .ref a ∧ SqL K H a xs) ∨ (∃ a, x = .ref a ∧ SqT K H a xs) ∨ ∃ l : List Nat, x = .str (S l) ∧ l.length ≤ big ∧ xs = l.map fun c => V.str (S [c])
theorem signs_vals {l : List Nat} {acc : Array Value} (h : ItemsOf (SignAt (S l)) acc l.length) : Vals (l.map fun c => V.str (S [c])) acc.toList := by
  have key : ∀ (m : List Nat) (vs : List Value), m.length = vs.length → (∀ (j : Nat) (v : Value), vs[j]? = some v → ∃ (c : Nat) (u : Tok), m[j]? = some c ∧ v = .str ⟨#[c]⟩ u) → Vals (m.map fun c => V.str (S [c])) vs := by
    intro m
    induction m with
    | nil =>
      intro vs hl _
      cases vs with
      | nil => exact .nil
      | cons _ _ => cases hl
    | cons c m ih =>
      intro vs hl hv
      cases vs with
      | nil => cases hl
      | cons v vs =>
        obtain ⟨c', u, h1, h2⟩ := hv 0 v rfl
        cases h1
        refine .cons ⟨u, h2⟩ (ih vs (Nat.succ.inj hl) fun j w hj => hv (j + 1) w hj)
  refine key l acc.toList (Eq.trans (Eq.symm h.1) (Array.length_toList).symm) fun j v hj => ?_
  obtain ⟨c, u, h1, h2⟩ := h.2 j v (by rw [← Array.getElem?_toList]; exact hj)
  exact ⟨c, u, by simpa [S] using h1, h2⟩
theorem collectV {x : V} {xs : List V} {v : Value} {Q : List Value → Shared → Prop} {E : Value → Shared → Prop} (hc : X.calm = true) (I : Inv X pins σ H s) (rx : RelV x v) (hi : ItemsV X.K H x xs)
    (hq : ∀ s' its, Inv X pins σ H s' → Vals xs its → Q its s') {A : Around} (hA : A.handled = X.A.handled) : wpAny (model X.prog X.w) A (collect v) Q E s := by
  rcases hi with ⟨a, rfl, hs⟩ | ⟨a, rfl, hs⟩ | ⟨l, rfl, hl, rfl⟩
  · cases rx
    obtain ⟨its, rv, ⟨o, n, ho, hcl, _, hd⟩, hz⟩ := I.list hs
    refine wpAny_collect_seq a (T := "list") (.inl rfl) ho hcl hd (fun h' k => ?_) (by rw [List.size_toArray, ← rv.length]; exact hz)
    have := hq { s with heap := h' } its (I.kept (t' := s.toks) k) rv
    simpa using this
  · cases rx
    obtain ⟨its, rv, ⟨o, ho, hcl, n, hd⟩, hz⟩ := I.tuple hs
    refine wpAny_collect_seq a (T := "tuple") (.inr rfl) ho hcl hd (fun h' k => ?_) (by rw [List.size_toArray, ← rv.length]; exact hz)
    have := hq { s with heap := h' } its (I.kept (t' := s.toks) k) rv
    simpa using this
  · obtain ⟨t, rfl⟩ := rx
    have sz : (S l).cps.size = l.length := by simp [S]
    refine wpAny_collect_str (by rw [hA]; exact I.ok.hd hc) (S l) t (fun s' acc k hg hdr hos hit => ?_) (by rw [sz]; exact big_le hl)
    obtain ⟨h', g', d', t', o'⟩ := s'
    have e1 : o' = s.os := hos
    have e2 : g' = s.gens := hg
    subst e1 e2
    refine hq _ _ ?_ (signs_vals (by rw [sz] at hit; exact hit))
    have I1 : Inv X pins σ H { s with heap := h', toks := t' } := I.kept k
    have e3 : d' = s.drawn := hdr
    subst e3
    exact I1
/-! ### sorted -/
def sortD (ds : List D) : List D := ds.mergeSort fun a b => PySem.W.dataLe false toPy a b
def rSortA (K : Fg) : List V → Hp → VK → Prop := fun vs H Q => ∃ x xs ds, vs = [x] ∧ ItemsV K H x xs ∧ RpAll K H ds xs ∧ shpAll 9 ds = true ∧ PySem.W.AllAlike (ds.map toPy) ∧ PySem.W.Sortable (ds.map toPy) ∧ ds.length ≤ big ∧
  ∀ p ys, H p = none → RpAll K H (sortD ds) ys → Q (.ref p) (upd H p (.lst ys))
theorem toPyAll_map : ∀ ds : List D, toPyAll ds = ds.map toPy
  | [] => by unfold toPyAll; rfl
  | d :: ds => by unfold toPyAll; rw [toPyAll_map ds]; rfl
theorem shpAll_mem {n : Nat} : ∀ {ds : List D}, shpAll n ds = true → ∀ d ∈ ds, shp n d = true
  | [], _, d, h => by cases h
  | e :: ds, s, d, h => by
    unfold shpAll at s
    rw [Bool.and_eq_true] at s
    rcases List.mem_cons.mp h with rfl | h
    · exact s.1
    · exact shpAll_mem s.2 d h
/-- the data and the values side by side -/
theorem each_pairs (I : Inv X pins σ H s) {n : Nat} : ∀ {ds : List D} {xs : List V} {us : List Value}, shpAll n ds = true → RpAll X.K H ds xs → Vals xs us →
    PySem.W.EachIs (fun u (b : D × V) => RelV b.2 u) us (ds.zip xs) ∧ PySem.W.EachIs (fun u (b : D × V) => ∃ as, Reads s.heap u (toPy b.1) as ∧ s.heap.objs.size ∉ as) us (ds.zip xs)
  | [], _, _, _, r, v => by
    unfold RpAll at r
    subst r
    cases v
    exact ⟨.nil, .nil⟩
  | d :: ds, _, _, sh, r, v => by
    unfold RpAll at r
    obtain ⟨x, t, rfl, r1, r2⟩ := r
    unfold shpAll at sh
    rw [Bool.and_eq_true] at sh
    cases v with
    | cons v1 v2 =>
      obtain ⟨e1, e2⟩ := each_pairs I sh.2 r2 v2
      obtain ⟨as, hr⟩ := Dp.reads I (toPy d) x _ (Rp.dp n d x sh.1 r1) v1
      exact ⟨.cons v1 e1, .cons ⟨as, hr, fun hm => by
        obtain ⟨o, ho⟩ := PyProof.On.reads_mem_get hr _ hm
        exact absurd (Heap.lt_size ho) (Nat.lt_irrefl _)⟩ e2⟩
theorem zip_fst : ∀ {ds : List D} {xs : List V}, xs.length = ds.length → (ds.zip xs).map (·.1) = ds
  | [], _, _ => rfl
  | d :: ds, [], h => by cases h
  | d :: ds, x :: xs, h => by
    show d :: (ds.zip xs).map (·.1) = d :: ds
    rw [zip_fst (Nat.succ.inj h)]
theorem pairs_rp {K : Fg} : ∀ {zs : List (D × V)}, (∀ z ∈ zs, Rp K H z.1 z.2) → RpAll K H (zs.map (·.1)) (zs.map (·.2))
  | [], _ => .nil
  | z :: zs, h => .cons (h z List.mem_cons_self) (pairs_rp fun w hw => h w (List.mem_cons_of_mem _ hw))
theorem rp_pairs {K : Fg} : ∀ {ds : List D} {xs : List V}, RpAll K H ds xs → ∀ z ∈ ds.zip xs, Rp K H z.1 z.2
  | [], _, _, z, hz => by cases hz
  | d :: ds, _, r, z, hz => by
    unfold RpAll at r
    obtain ⟨x, t, rfl, r1, r2⟩ := r
    rcases List.mem_cons.mp hz with rfl | hz
    · exact r1
    · exact rp_pairs r2 z hz
theorem vals_of_each {R : Value → (D × V) → Prop} : ∀ {us : List Value} {zs : List (D × V)}, PySem.W.EachIs (fun u (b : D × V) => RelV b.2 u) us zs → Vals (zs.map (·.2)) us
  | _, _, .nil => .nil
  | _, _, .cons h t => .cons h (vals_of_each (R := R) t)
theorem cr_sortA (hc : X.calm = true) (hu : X.A.units + 64 < cLine) : CallR X (.builtin "sorted") (rSortA X.K) := by
  intro pins s σ H vs us Q I r h
  obtain ⟨x, xs, ds, rfl, hi, hr, hsh, hal, hso, hlen, q⟩ := h
  cases r with
  | cons rx rn =>
    rename_i v us'
    cases rn
    refine PyProof.Rows.call_function_entry_kw PyProof.Rows.kind_sorted PyProof.Rows.plain_sorted PyProof.Rows.entry_sorted (PyProof.Rows.args_sorted1 _) ?_
    show wpAny _ X.A.in1 (Builtin.«sorted» ⟨[v], []⟩) _ _ s
    unfold Builtin.«sorted»
    refine wpAny_bind (m := checkCount "sorted" 1 1 _) (wpAny_pure ?_)
    refine wpAny_bind (collectV hc I rx hi (fun s' its I' rv => ?_) rfl)
    have hL : its.length ≤ sizeLine := by
      rw [← rv.length, hr.length]
      exact big_le hlen
    refine wpAny_bind (wpAny_newList ?_ hL)
    have hf : H s'.heap.objs.size = none := I'.hok.fresh (Nat.le_refl _)
    obtain ⟨e1, e2⟩ := each_pairs (n := 9) I' hsh hr rv
    have hat : (s'.heap.push (PyProof.Rows.seqObj "list" its.toArray 0)).get? s'.heap.objs.size = some (PyProof.Rows.seqObj "list" its.toArray 0) := Heap.get?_push_size _ rfl
    have lz : (ds.zip xs).length ≤ sizeLine := by
      rw [List.length_zip, hr.length, Nat.min_self]
      exact big_le hlen
    have em : (ds.zip xs).map (fun b => toPy b.1) = ds.map toPy := by
      have : (ds.zip xs).map (fun b => toPy b.1) = ((ds.zip xs).map (·.1)).map toPy := by rw [List.map_map]; rfl
      rw [this, zip_fst hr.length]
    refine wpAny_bind (wpAny_holding (PySem.W.list_sort_data (s := { s' with heap := s'.heap.push (PyProof.Rows.seqObj "list" its.toArray 0) }) (enc := fun b : D × V => toPy b.1) (R := fun u b => RelV b.2 u) hat e1 (e2.mono fun u b ⟨as, h1, h2⟩ => ⟨as, PyProof.Rows.Reads.keeps (fun b o e => Heap.get?_push_of_some _ e) h1, h2⟩) (by rw [em]; exact hal) (by rw [em]; exact hso) lz (fun b hb => ?_) fun out ho hout => ?_))
    · have hb1 : b.1 ∈ ds := by
        have := List.mem_map_of_mem (f := (·.1)) hb
        rw [zip_fst hr.length] at this
        exact this
      have := (shp_lay 9 b.1 (shpAll_mem hsh _ hb1)).2
      show X.A.units + 1 + 1 + (toPy b.1).depth < cLine
      omega
    · refine wpAny_pure ⟨_, rfl, ?_⟩
      have vo := vals_of_each (R := fun _ _ => True) hout
      have es : ((ds.zip xs).mergeSort (PySem.W.dataLe false fun b : D × V => toPy b.1)).map (·.1) = sortD ds := by
        unfold sortD
        have z := List.map_mergeSort (r := PySem.W.dataLe false fun b : D × V => toPy b.1) (s := fun a b => PySem.W.dataLe false toPy a b) (f := fun b : D × V => b.1) (l := ds.zip xs) (fun a _ b _ => rfl)
        rw [z, zip_fst hr.length]
      have rs : RpAll X.K H (sortD ds) (((ds.zip xs).mergeSort (PySem.W.dataLe false fun b : D × V => toPy b.1)).map (·.2)) := by
        rw [← es]
        exact pairs_rp fun z hz => rp_pairs hr z (List.mem_mergeSort.mp hz)
      refine ⟨.ref s'.heap.objs.size, _, I'.laid (t' := s'.toks) (o := .lst _) (fun b o e => ?_) (Nat.le_refl _) ⟨?_, out, (PyProof.Rows.sortedHeap_at (vs := its) (out := out.toArray) hat).choose, vo, ?_⟩, rfl, q _ _ hf rs⟩
      · rw [PyProof.Rows.sortedHeap_old (Nat.ne_of_lt (Heap.lt_size e)) (by rw [Heap.size_push]; exact Nat.lt_succ_of_lt (Heap.lt_size e))]
        exact Heap.get?_push_of_some _ e
      · rw [List.length_map, List.length_mergeSort]
        exact lz
      · exact (PyProof.Rows.sortedHeap_at (vs := its) (out := out.toArray) hat).choose_spec
end
end DL
namespace DL
open PySem L2
/-! ### where a sign first stands -/
theorem occ_find (s sub : Str) (hi : Nat) : ∀ (l : List Nat) (free : Nat), (∀ i ∈ l, free ≤ i) →
    (forIn l ((#[] : Array Nat), free) (StrLaws.occBody s sub hi 1)).run.fst = match l.find? (fun i => decide (i + sub.length ≤ hi) && Builtin.Str.subAt s sub i) with
      | some i => #[i]
      | none => #[]
  | [], free, _ => rfl
  | a :: l, free, hf => by
    rw [List.forIn_cons]
    unfold StrLaws.occBody
    have ha : free ≤ a := hf a (List.mem_cons_self ..)
    by_cases hc : a + sub.length ≤ hi ∧ Builtin.Str.subAt s sub a = true
    · have c1 : (((#[] : Array Nat), free).fst.size < 1 ∧ ((#[] : Array Nat), free).snd ≤ a) ∧ a + sub.length ≤ hi := ⟨⟨by simp, ha⟩, hc.1⟩
      rw [if_pos ⟨c1, hc.2⟩]
      have full : ∀ (m : List Nat) (st : Array Nat × Nat), st.fst.size = 1 → (forIn m st (StrLaws.occBody s sub hi 1)).run.fst = st.fst := by
        intro m
        induction m with
        | nil => intro st _; rfl
        | cons b m ih =>
          intro st h1
          rw [List.forIn_cons]
          unfold StrLaws.occBody
          rw [if_neg (fun h => by have := h.1.1.1; omega)]
          exact ih st h1
      have e1 : (a :: l).find? (fun i => decide (i + sub.length ≤ hi) && Builtin.Str.subAt s sub i) = some a := by
        rw [List.find?_cons_of_pos]
        rw [hc.2, decide_eq_true hc.1]
        rfl
      rw [e1]
      exact full l _ (by simp)
    · have c2 : ¬ (((((#[] : Array Nat), free).fst.size < 1 ∧ ((#[] : Array Nat), free).snd ≤ a) ∧ a + sub.length ≤ hi) ∧ Builtin.Str.subAt s sub a = true) := fun h => hc ⟨h.1.2, h.2⟩
      rw [if_neg c2]
      have e1 : (a :: l).find? (fun i => decide (i + sub.length ≤ hi) && Builtin.Str.subAt s sub i) = l.find? (fun i => decide (i + sub.length ≤ hi) && Builtin.Str.subAt s sub i) := by
        rw [List.find?_cons_of_neg]
        intro h
        rw [Bool.and_eq_true] at h
        exact hc ⟨of_decide_eq_true h.1, h.2⟩
      rw [e1]
      exact occ_find s sub hi l free (fun i hi' => hf i (List.mem_cons_of_mem _ hi'))
theorem occ_sign {l : List Nat} {c : Nat} (h : c ∈ l) : Builtin.Str.occurrences (S l) (S [c]) 0 (S l).length 1 = [l.idxOf c] := by
  rw [StrLaws.occ_eq, occ_find _ _ _ _ _ (fun _ _ => Nat.zero_le _)]
  have hlt : l.idxOf c < l.length := List.idxOf_lt_length_iff.mpr h
  have hget : l[l.idxOf c]? = some c := by
    rw [List.getElem?_eq_getElem hlt]
    simp
  have sub : ∀ i, (decide (i + (S [c]).length ≤ (S l).length) && Builtin.Str.subAt (S l) (S [c]) i) = true ↔ l[i]? = some c := by
    intro i
    have := StrLaws.subAt_one (S l) c i
    rw [S_list] at this
    rw [Bool.and_eq_true, decide_eq_true_iff]
    exact this
  have ef : (List.range' 0 ((S l).length + 1 - 0)).find? (fun i => decide (i + (S [c]).length ≤ (S l).length) && Builtin.Str.subAt (S l) (S [c]) i) = some (l.idxOf c) := by
    rw [List.find?_eq_some_iff_append]
    refine ⟨(sub _).mpr hget, List.range' 0 (l.idxOf c), List.range' (l.idxOf c + 1) (l.length - l.idxOf c), ?_, fun a ha => ?_⟩
    · rw [S_len]
      have e1 : List.range' 0 (l.length + 1 - 0) = List.range' 0 (l.idxOf c) ++ List.range' (l.idxOf c) (l.length + 1 - l.idxOf c) := by
        have e0 : l.length + 1 - 0 = l.idxOf c + (l.length + 1 - l.idxOf c) := by omega
        have e2 := List.range'_append_1 (s := 0) (m := l.idxOf c) (n := l.length + 1 - l.idxOf c)
        rw [Nat.zero_add] at e2
        rw [e0, ← e2]
      rw [e1]
      congr 1
      have : l.length + 1 - l.idxOf c = (l.length - l.idxOf c) + 1 := by omega
      rw [this, List.range'_succ]
    · rw [Bool.not_eq_true']
      have hlt' : a < l.idxOf c := by
        have := List.mem_range'_1.mp ha
        omega
      cases hb : (decide (a + (S [c]).length ≤ (S l).length) && Builtin.Str.subAt (S l) (S [c]) a) with
      | false => rfl
      | true =>
        exfalso
        have g := (sub a).mp hb
        obtain ⟨h1, h2⟩ := List.getElem?_eq_some_iff.mp g
        have := List.not_of_lt_findIdx (p := (· == c)) (xs := l) (i := a) hlt'
        rw [h2] at this
        simp at this
  rw [ef]
section
variable {X : Cx} {cl : Nat → Addr} {W : WX} {K : Fg}
theorem RpAll.one {H : Hp} {d : D} {vs : List V} (h : RpAll K H [d] vs) : ∃ v, vs = [v] ∧ Rp K H d v := by
  unfold RpAll at h
  obtain ⟨v, r, rfl, h1, h2⟩ := h
  unfold RpAll at h2
  subst h2
  exact ⟨v, rfl, h1⟩
theorem RpAll.two {H : Hp} {d e : D} {vs : List V} (h : RpAll K H [d, e] vs) : ∃ v w, vs = [v, w] ∧ Rp K H d v ∧ Rp K H e w := by
  unfold RpAll at h
  obtain ⟨v, r, rfl, h1, h2⟩ := h
  obtain ⟨w, rfl, h3⟩ := h2.one
  exact ⟨v, w, rfl, h1, h3⟩
/-! ### len -/
def cLen : List D → Res D
  | [.str l] => Res.need (l.length ≤ big) (.ok (.int l.length))
  | [.list l] => .ok (.int l.length)
  | [.tuple l] => .ok (.int l.length)
  | [.scr l] => .ok (.int l.length)
  | _ => .stuck
theorem cLen_ne : noExcC cLen := fun ds => by
  unfold cLen
  split
  · exact need_noExc ok_noExc
  · exact ok_noExc
  · exact ok_noExc
  · exact ok_noExc
  · exact stuck_noExc
theorem sim_len : SimC K cl (fun xs H Q => ∃ x n, xs = [x] ∧ LenV K x H n ∧ Q (.int n) H) cLen := by
  intro vs ds σ H Q r po
  unfold cLen at po
  split at po
  · obtain ⟨hc, po⟩ := need_on po
    obtain ⟨v, rfl, h⟩ := r.one
    obtain rfl := rp_str h
    exact ⟨_, _, rfl, ⟨by rw [S_len]; exact big_le hc, rfl⟩, by rw [S_len]; exact po _ H (Same.refl H) (rpi _) (fresh_no rfl)⟩
  · obtain ⟨v, rfl, h⟩ := r.one
    obtain ⟨a, xs, rfl, ha, hx⟩ := rp_list h
    exact ⟨_, _, rfl, .inl ⟨xs, Or.inl (Or.inl ha), rfl⟩, by rw [hx.length]; exact po _ H (Same.refl H) (rpi _) (fresh_no rfl)⟩
  · obtain ⟨v, rfl, h⟩ := r.one
    obtain ⟨a, xs, rfl, ha, hx⟩ := rp_tup h
    exact ⟨_, _, rfl, .inr ⟨xs, ha, rfl⟩, by rw [hx.length]; exact po _ H (Same.refl H) (rpi _) (fresh_no rfl)⟩
  · obtain ⟨v, rfl, h⟩ := r.one
    unfold Rp at h
    obtain ⟨a, rfl, ha⟩ := h
    exact ⟨_, _, rfl, .inl ⟨_, ha, rfl⟩, by rw [List.length_map]; exact po _ H (Same.refl H) (rpi _) (fresh_no rfl)⟩
  · exact po.elim
variable {e : Expr} {es : List Expr} {pos p : Pos} {tr : TA} {gs : Dv → Res (List D)}
theorem q_len (hm : X.mg "len" = none) (ha : QA X cl W (e :: es) tr gs) (hg : Gl X "len" := by rfl) (he : starEach (e :: es) X.env = (false, eval e X.env) :: starEach es X.env := by rfl) (hpl : (backTo pos (starEach es X.env)).any (·.1) = false := by rfl) :
    QF X cl W (.Call (.Name "len" p) (e :: es) [] pos) (tCB (fun xs H Q => ∃ x n, xs = [x] ∧ LenV X.K x H n ∧ Q (.int n) H) tr) (fun δ => (gs δ).bind cLen) := q_callB call_len sim_len cLen_ne hg hm PySem.boot_len ha (by decide) (by decide) he hpl
/-! ### min, max of two ints; of a list of ints -/
def cMin : List D → Res D
  | [.int i, .int j] => .ok (.int (if j < i then j else i))
  | _ => .stuck
def cMax : List D → Res D
  | [.int i, .int j] => .ok (.int (if j > i then j else i))
  | _ => .stuck
theorem cMin_ne : noExcC cMin := fun ds => by
  unfold cMin
  split
  · exact ok_noExc
  · exact stuck_noExc
theorem cMax_ne : noExcC cMax := fun ds => by
  unfold cMax
  split
  · exact ok_noExc
  · exact stuck_noExc
theorem sim_min : SimC K cl (fun xs H Q => ∃ i j, xs = [.int i, .int j] ∧ Q (.int (if j < i then j else i)) H) cMin := by
  intro vs ds σ H Q r po
  unfold cMin at po
  split at po
  · obtain ⟨v, w, rfl, h1, h2⟩ := r.two
    obtain rfl := rp_int h1; obtain rfl := rp_int h2
    exact ⟨_, _, rfl, po _ H (Same.refl H) (rpi _) (fresh_no rfl)⟩
  · exact po.elim
theorem sim_max : SimC K cl (fun xs H Q => ∃ i j, xs = [.int i, .int j] ∧ Q (.int (if j > i then j else i)) H) cMax := by
  intro vs ds σ H Q r po
  unfold cMax at po
  split at po
  · obtain ⟨v, w, rfl, h1, h2⟩ := r.two
    obtain rfl := rp_int h1; obtain rfl := rp_int h2
    exact ⟨_, _, rfl, po _ H (Same.refl H) (rpi _) (fresh_no rfl)⟩
  · exact po.elim
theorem q_min2 (hc : X.calm = true) (hm : X.mg "min" = none) (ha : QA X cl W (e :: es) tr gs) (hg : Gl X "min" := by rfl) (he : starEach (e :: es) X.env = (false, eval e X.env) :: starEach es X.env := by rfl) (hpl : (backTo pos (starEach es X.env)).any (·.1) = false := by rfl) :
    QF X cl W (.Call (.Name "min" p) (e :: es) [] pos) (tCB (fun xs H Q => ∃ i j, xs = [.int i, .int j] ∧ Q (.int (if j < i then j else i)) H) tr) (fun δ => (gs δ).bind cMin) := q_callB (call_min2 hc) sim_min cMin_ne hg hm (by decide +kernel) ha (by decide) (by decide) he hpl
theorem q_max2 (hc : X.calm = true) (hm : X.mg "max" = none) (ha : QA X cl W (e :: es) tr gs) (hg : Gl X "max" := by rfl) (he : starEach (e :: es) X.env = (false, eval e X.env) :: starEach es X.env := by rfl) (hpl : (backTo pos (starEach es X.env)).any (·.1) = false := by rfl) :
    QF X cl W (.Call (.Name "max" p) (e :: es) [] pos) (tCB (fun xs H Q => ∃ i j, xs = [.int i, .int j] ∧ Q (.int (if j > i then j else i)) H) tr) (fun δ => (gs δ).bind cMax) := q_callB (call_max2 hc) sim_max cMax_ne hg hm (by decide +kernel) ha (by decide) (by decide) he hpl
/-! ### int -/
def cInt : List D → Res D
  | [.int i] => .ok (.int i)
  | [.bool b] => .ok (.int (if b then 1 else 0))
  | _ => .stuck
theorem cInt_ne : noExcC cInt := fun ds => by
  unfold cInt
  split
  · exact ok_noExc
  · exact ok_noExc
  · exact stuck_noExc
theorem sim_int : SimC K cl (fun xs H Q => (∃ i, xs = [.int i] ∧ Q (.int i) H) ∨ ∃ k, xs = [.bl k] ∧ Q (.int (if k then 1 else 0)) H) cInt := by
  intro vs ds σ H Q r po
  unfold cInt at po
  split at po
  · obtain ⟨v, rfl, h1⟩ := r.one
    obtain rfl := rp_int h1
    exact .inl ⟨_, rfl, po _ H (Same.refl H) (rpi _) (fresh_no rfl)⟩
  · obtain ⟨v, rfl, h1⟩ := r.one
    obtain rfl := rp_bl h1
    exact .inr ⟨_, rfl, po _ H (Same.refl H) (rpi _) (fresh_no rfl)⟩
  · exact po.elim
theorem q_int1 (hm : X.mg "int" = none) (ha : QA X cl W (e :: es) tr gs) (hg : Gl X "int" := by rfl) (he : starEach (e :: es) X.env = (false, eval e X.env) :: starEach es X.env := by rfl) (hpl : (backTo pos (starEach es X.env)).any (·.1) = false := by rfl) :
    QF X cl W (.Call (.Name "int" p) (e :: es) [] pos) (tCB (fun xs H Q => (∃ i, xs = [.int i] ∧ Q (.int i) H) ∨ ∃ k, xs = [.bl k] ∧ Q (.int (if k then 1 else 0)) H) tr) (fun δ => (gs δ).bind cInt) := q_callTy call_int1 sim_int cInt_ne hg hm PyProof.Rows.boot_int ha (by decide) (by decide) he hpl
/-! ### any, all of a list of truths -/
def bools : List D → Option (List Bool)
  | [] => some []
  | .bool b :: r => (bools r).map (b :: ·)
  | _ => none
theorem bools_rp {H : Hp} : ∀ {l : List D} {bs : List Bool} {xs : List V}, bools l = some bs → RpAll K H l xs → xs = bs.map V.bl
  | [], bs, xs, h, r => by
    unfold bools at h
    unfold RpAll at r
    cases h
    exact r
  | d :: l, bs, xs, h, r => by
    unfold RpAll at r
    obtain ⟨v, t, rfl, h1, h2⟩ := r
    cases d with
    | bool b =>
      unfold bools at h
      cases e : bools l with
      | none => rw [e] at h; cases h
      | some cs =>
        rw [e] at h
        cases h
        obtain rfl := rp_bl h1
        rw [bools_rp e h2]
        rfl
    | _ => cases h
def cAny : List D → Res D
  | [.list l] => match bools l with
    | some bs => .ok (.bool (bs.any id))
    | none => .stuck
  | _ => .stuck
def cAll : List D → Res D
  | [.list l] => match bools l with
    | some bs => .ok (.bool (bs.all id))
    | none => .stuck
  | _ => .stuck
theorem cAny_ne : noExcC cAny := fun ds => by
  unfold cAny
  split
  · split
    · exact ok_noExc
    · exact stuck_noExc
  · exact stuck_noExc
theorem cAll_ne : noExcC cAll := fun ds => by
  unfold cAll
  split
  · split
    · exact ok_noExc
    · exact stuck_noExc
  · exact stuck_noExc
theorem sim_any : SimC K cl (rAny K) cAny := by
  intro vs ds σ H Q r po
  unfold cAny at po
  split at po
  · split at po
    · rename_i bs hb
      obtain ⟨v, rfl, h1⟩ := r.one
      obtain ⟨a, xs, rfl, ha, hx⟩ := rp_list h1
      rw [bools_rp hb hx] at ha
      exact ⟨a, bs, rfl, Or.inl (Or.inl ha), po _ H (Same.refl H) (rpb _) (fresh_no rfl)⟩
    · exact po.elim
  · exact po.elim
theorem sim_all : SimC K cl (rAll K) cAll := by
  intro vs ds σ H Q r po
  unfold cAll at po
  split at po
  · split at po
    · rename_i bs hb
      obtain ⟨v, rfl, h1⟩ := r.one
      obtain ⟨a, xs, rfl, ha, hx⟩ := rp_list h1
      rw [bools_rp hb hx] at ha
      exact ⟨a, bs, rfl, Or.inl (Or.inl ha), po _ H (Same.refl H) (rpb _) (fresh_no rfl)⟩
    · exact po.elim
  · exact po.elim
theorem q_any (hc : X.calm = true) (hm : X.mg "any" = none) (ha : QA X cl W (e :: es) tr gs) (hg : Gl X "any" := by rfl) (he : starEach (e :: es) X.env = (false, eval e X.env) :: starEach es X.env := by rfl) (hpl : (backTo pos (starEach es X.env)).any (·.1) = false := by rfl) :
    QF X cl W (.Call (.Name "any" p) (e :: es) [] pos) (tCB (rAny X.K) tr) (fun δ => (gs δ).bind cAny) := q_callB (cr_any hc) sim_any cAny_ne hg hm (by decide +kernel) ha (by decide) (by decide) he hpl
theorem q_all (hc : X.calm = true) (hm : X.mg "all" = none) (ha : QA X cl W (e :: es) tr gs) (hg : Gl X "all" := by rfl) (he : starEach (e :: es) X.env = (false, eval e X.env) :: starEach es X.env := by rfl) (hpl : (backTo pos (starEach es X.env)).any (·.1) = false := by rfl) :
    QF X cl W (.Call (.Name "all" p) (e :: es) [] pos) (tCB (rAll X.K) tr) (fun δ => (gs δ).bind cAll) := q_callB (cr_all hc) sim_all cAll_ne hg hm (by decide +kernel) ha (by decide) (by decide) he hpl
/-! ### sorted -/
theorem items_V {H : Hp} {d : D} {ds : List D} {v : V} (h : items d = .ok ds) (hs : ∀ l, d = .str l → l.length ≤ big) (r : Rp K H d v) : ∃ xs, ItemsV K H v xs ∧ RpAll K H ds xs := by
  cases d with
  | list l =>
    cases h
    obtain ⟨a, xs, rfl, ha, hx⟩ := rp_list r
    exact ⟨xs, .inl ⟨a, rfl, Or.inl (Or.inl ha)⟩, hx⟩
  | tuple l =>
    cases h
    obtain ⟨a, xs, rfl, ha, hx⟩ := rp_tup r
    exact ⟨xs, .inr (.inl ⟨a, rfl, ha⟩), hx⟩
  | str l =>
    cases h
    obtain rfl := rp_str r
    refine ⟨_, .inr (.inr ⟨l, rfl, hs l rfl, rfl⟩), ?_⟩
    clear hs r
    induction l with
    | nil => exact .nil
    | cons c l ih => exact .cons (rps _) ih
  | _ => cases h
def alk (ds : List D) : Bool := ds.all fun a => ds.all fun b => PySem.W.alike (toPy a) (toPy b)
def srt (ds : List D) : Bool := (ds.all fun d => match d with
    | .tuple (_ :: _) => true
    | _ => false) || ds.all fun d => match d with
    | .bool _ | .int _ | .str _ => true
    | _ => false
theorem alk_ok {ds : List D} (h : alk ds = true) : PySem.W.AllAlike (ds.map toPy) := fun a ha b hb => by
  obtain ⟨x, hx, rfl⟩ := List.mem_map.mp ha
  obtain ⟨y, hy, rfl⟩ := List.mem_map.mp hb
  unfold alk at h
  exact List.all_eq_true.mp (List.all_eq_true.mp h x hx) y hy
theorem srt_ok {ds : List D} (h : srt ds = true) : PySem.W.Sortable (ds.map toPy) := by
  unfold srt at h
  rw [Bool.or_eq_true] at h
  rcases h with h | h
  · refine .inl fun d hd => ?_
    obtain ⟨x, hx, rfl⟩ := List.mem_map.mp hd
    have := List.all_eq_true.mp h x hx
    split at this
    · unfold toPy toPyAll
      exact ⟨_, _, rfl⟩
    · cases this
  · refine .inr fun d hd => ?_
    obtain ⟨x, hx, rfl⟩ := List.mem_map.mp hd
    have := List.all_eq_true.mp h x hx
    split at this
    · unfold toPy; exact ⟨fun z => by (cases z), fun _ z => by (cases z)⟩
    · unfold toPy; exact ⟨fun z => by (cases z), fun _ z => by (cases z)⟩
    · unfold toPy; exact ⟨fun z => by (cases z), fun _ z => by (cases z)⟩
    · cases this
def shortS : D → Bool
  | .str l => decide (l.length ≤ big)
  | _ => true
def cSorted : List D → Res D
  | [d] => (items d).bind fun ds => Res.need (shortS d = true ∧ shpAll 9 ds = true ∧ alk ds = true ∧ srt ds = true ∧ ds.length ≤ big) (.ok (.list (sortD ds)))
  | _ => .stuck
theorem cSorted_ne : noExcC cSorted := fun ds => by
  unfold cSorted
  split
  · rename_i d
    cases h : items d with
    | ok l => exact need_noExc ok_noExc
    | exc c => exact (items_ne d c h).elim
    | stuck => exact stuck_noExc
  · exact stuck_noExc
theorem sim_sorted : SimC K cl (rSortA K) cSorted := by
  intro vs ds σ H Q r po
  unfold cSorted at po
  split at po
  · rename_i d
    obtain ⟨v, rfl, h1⟩ := r.one
    cases h : items d with
    | exc c => exact (items_ne d c h).elim
    | stuck => rw [h] at po; exact po.elim
    | ok l =>
      rw [h, Res.ok_bind] at po
      obtain ⟨⟨c0, c1, c2, c3, c4⟩, po⟩ := need_on po
      obtain ⟨xs, hi, hx⟩ := items_V h (fun l e => by subst e; exact of_decide_eq_true c0) h1
      refine ⟨v, xs, l, rfl, hi, hx, c1, alk_ok c2, srt_ok c3, c4, fun p ys hp hy => ?_⟩
      have s := same_new (o := .lst ys) hp
      exact po _ _ s (rpl upd_same (RpAll.mono s _ _ hy)) (fresh_of hp)
  · exact po.elim
theorem q_sorted (hc : X.calm = true) (hu : X.A.units + 64 < cLine) (hm : X.mg "sorted" = none) (ha : QA X cl W (e :: es) tr gs) (hg : Gl X "sorted" := by rfl) (he : starEach (e :: es) X.env = (false, eval e X.env) :: starEach es X.env := by rfl) (hpl : (backTo pos (starEach es X.env)).any (·.1) = false := by rfl) :
    QF X cl W (.Call (.Name "sorted" p) (e :: es) [] pos) (tCB (rSortA X.K) tr) (fun δ => (gs δ).bind cSorted) := q_callB (cr_sortA hc hu) sim_sorted cSorted_ne hg hm PyProof.Rows.boot_sorted ha (by decide) (by decide) he hpl
/-! ### list, tuple -/
def rListA (K : Fg) : List V → Hp → VK → Prop := fun vs H Q => ∃ x xs, vs = [x] ∧ ItemsV K H x xs ∧ ∀ p, H p = none → Q (.ref p) (upd H p (.lst xs))
theorem cr_listA (hc : X.calm = true) : CallR X (.type "list") (rListA X.K) := by
  intro pins s σ H vs us Q I r h
  obtain ⟨x, xs, rfl, hi, q⟩ := h
  rcases hi with ⟨a, rfl, hs⟩ | ⟨a, rfl, hs⟩ | ⟨l, rfl, hl, rfl⟩
  · exact call_list_of pins s σ H _ us Q I r ⟨a, xs, rfl, .inl hs, q⟩
  · exact call_list_of pins s σ H _ us Q I r ⟨a, xs, rfl, .inr hs, q⟩
  · cases r with
    | cons rx rn =>
      cases rn
      obtain ⟨t, rfl⟩ := rx
      have sz : (S l).cps.size = l.length := by simp [S]
      refine call_list_str (I.ok.hd hc) (S l) t (fun h' tk acc c k hat hit => ?_) (by rw [sz]; exact big_le hl)
      have vo := signs_vals (by rw [sz] at hit; exact hit)
      refine ⟨.ref s.heap.objs.size, _, I.laid (t' := tk) (o := .lst _) k (Nat.le_refl _) ⟨?_, acc.toList, c, vo, ?_⟩, rfl, q _ (I.hok.fresh (Nat.le_refl _))⟩
      · rw [List.length_map]; exact big_le hl
      · rw [hat]
def cList : List D → Res D
  | [d] => (items d).bind fun ds => Res.need (shortS d = true) (.ok (.list ds))
  | _ => .stuck
theorem cList_ne : noExcC cList := fun ds => by
  unfold cList
  split
  · rename_i d
    cases h : items d with
    | ok l => exact need_noExc ok_noExc
    | exc c => exact (items_ne d c h).elim
    | stuck => exact stuck_noExc
  · exact stuck_noExc
theorem sim_list : SimC K cl (rListA K) cList := by
  intro vs ds σ H Q r po
  unfold cList at po
  split at po
  · rename_i d
    obtain ⟨v, rfl, h1⟩ := r.one
    cases h : items d with
    | exc c => exact (items_ne d c h).elim
    | stuck => rw [h] at po; exact po.elim
    | ok l =>
      rw [h, Res.ok_bind] at po
      obtain ⟨c0, po⟩ := need_on po
      obtain ⟨xs, hi, hx⟩ := items_V h (fun l e => by subst e; exact of_decide_eq_true c0) h1
      refine ⟨v, xs, rfl, hi, fun p hp => ?_⟩
      have s := same_new (o := .lst xs) hp
      exact po _ _ s (rpl upd_same (RpAll.mono s _ _ hx)) (fresh_of hp)
  · exact po.elim
theorem q_list (hc : X.calm = true) (hm : X.mg "list" = none) (ha : QA X cl W (e :: es) tr gs) (hg : Gl X "list" := by rfl) (he : starEach (e :: es) X.env = (false, eval e X.env) :: starEach es X.env := by rfl) (hpl : (backTo pos (starEach es X.env)).any (·.1) = false := by rfl) :
    QF X cl W (.Call (.Name "list" p) (e :: es) [] pos) (tCB (rListA X.K) tr) (fun δ => (gs δ).bind cList) := q_callTy (cr_listA hc) sim_list cList_ne hg hm PyProof.Rows.boot_list ha (by decide) (by decide) he hpl
def cTuple : List D → Res D
  | [.list l] => .ok (.tuple l)
  | [.tuple l] => .ok (.tuple l)
  | _ => .stuck
theorem cTuple_ne : noExcC cTuple := fun ds => by
  unfold cTuple
  split
  · exact ok_noExc
  · exact ok_noExc
  · exact stuck_noExc
def rTupA (K : Fg) : List V → Hp → VK → Prop := fun xs H Q => ∃ p ys, xs = [.ref p] ∧ ((SqL K H p ys ∧ ∀ l, H l = none → Q (.ref l) (upd H l (.tup ys))) ∨ (SqT K H p ys ∧ Q (.ref p) H))
theorem sim_tuple : SimC K cl (rTupA K) cTuple := by
  intro vs ds σ H Q r po
  unfold cTuple at po
  split at po
  · obtain ⟨v, rfl, h1⟩ := r.one
    obtain ⟨a, xs, rfl, ha, hx⟩ := rp_list h1
    refine ⟨a, xs, rfl, .inl ⟨Or.inl (Or.inl ha), fun p hp => ?_⟩⟩
    have s := same_new (o := .tup xs) hp
    exact po _ _ s (rpt (Or.inl (Or.inl upd_same)) (RpAll.mono s _ _ hx)) (fresh_no rfl)
  · obtain ⟨v, rfl, h1⟩ := r.one
    obtain ⟨a, xs, rfl, ha, hx⟩ := rp_tup h1
    exact ⟨a, xs, rfl, .inr ⟨ha, po _ H (Same.refl H) (rpt ha hx) (fresh_no rfl)⟩⟩
  · exact po.elim
theorem q_tuple (hm : X.mg "tuple" = none) (ha : QA X cl W (e :: es) tr gs) (hg : Gl X "tuple" := by rfl) (he : starEach (e :: es) X.env = (false, eval e X.env) :: starEach es X.env := by rfl) (hpl : (backTo pos (starEach es X.env)).any (·.1) = false := by rfl) :
    QF X cl W (.Call (.Name "tuple" p) (e :: es) [] pos) (tCB (rTupA X.K) tr) (fun δ => (gs δ).bind cTuple) := q_callTy call_tuple_of sim_tuple cTuple_ne hg hm PyProof.Rows.boot_tuple ha (by decide) (by decide) he hpl
/-! ### s.index(c) -/
variable {o a : Expr} {to ta : TE} {f h : Dv → Res D} {apos : Pos}
def asS (d : D) : Res (List Nat) := match d with
  | .str l => .ok l
  | _ => .stuck
def dM (g : List Nat → D → Res D) (f h : Dv → Res D) : Dv → Res D := fun δ => (f δ).bind fun a => (asS a).bind fun l => (h δ).bind fun b => g l b
def SimM (K : Fg) (cl : Nat → Addr) (r : V → List V → Hp → VK → Prop) (g : List Nat → D → Res D) : Prop := ∀ (y : V) (l : List Nat) (b : D) (σ : L2.St) (H : Hp) (Q : VK), Rp K H b y → PostF K cl (fun _ _ _ _ => False) σ H (g l b) Q → r (.str (S l)) [y] H Q
theorem tM1_sim {r : V → List V → Hp → VK → Prop} {g : List Nat → D → Res D} (so : SimE X.K cl W to f) (sa : SimE X.K cl W ta h) (sr : SimM X.K cl r g) (ne : ∀ a b, noExc (g a b)) : SimF X.K cl W (tM1 r to ta) (dM g f h) := by
  intro δ σ H Q en po
  show to σ H _
  refine so.chain (P := fun H r => PostF X.K cl W σ H r Q) en po (fun c h => h) (fun H h => h) fun d v H1 _ s1 r1 p1 => ?_
  cases d with
  | str l =>
    obtain rfl := rp_str r1
    refine ⟨⟨_, rfl⟩, ?_⟩
    show ta σ H1 _
    refine sa.chain (P := fun H r => PostF X.K cl W σ H r Q) (en.mono s1) (PostF.weak s1 p1) (fun c h => h) (fun H h => h) fun b y H2 _ s2 r2 p2 => ?_
    have p3 := p2.weak s2
    refine sr _ _ _ σ H2 Q r2 ?_
    cases q : g l b with
    | ok d => rw [q] at p3; exact p3
    | exc c => exact (ne _ b c q).elim
    | stuck => rw [q] at p3; exact p3
  | _ => exact p1.elim
def mIndex (l : List Nat) (d : D) : Res D := match d with
  | .str [c] => Res.need (c ∈ l) (.ok (.int (l.idxOf c : Nat)))
  | _ => .stuck
theorem mIndex_ne (l : List Nat) (d : D) : noExc (mIndex l d) := by
  unfold mIndex
  split
  · exact need_noExc ok_noExc
  · exact stuck_noExc
theorem sim_index : SimM K cl (fun x xs H Q => ∃ a b i rest, x = .str a ∧ xs = [.str b] ∧ Builtin.Str.occurrences a b 0 a.length 1 = i :: rest ∧ Q (.int (i : Nat)) H) mIndex := by
  intro y l b σ H Q rb po
  unfold mIndex at po
  split at po
  · obtain ⟨hc, po⟩ := need_on po
    obtain rfl := rp_str rb
    exact ⟨_, _, _, _, rfl, rfl, occ_sign hc, po _ H (Same.refl H) (rpi _) (fresh_no rfl)⟩
  · exact po.elim
theorem q_index (ho : QE X cl W o to f) (ha : QE X cl W a ta h) (hs : starEach [a] X.env = [(false, eval a X.env)] := by rfl) (hbase : attributeBase o "index" X.env (eval o X.env) = eval o X.env := by rfl) (hline : (apos.endLine == pos.line) = true := by rfl) :
    QF X cl W (.Call (.Attribute o "index" apos) [a] [] pos) (tM1 (fun x xs H Q => ∃ a b i rest, x = .str a ∧ xs = [.str b] ∧ Builtin.Str.occurrences a b 0 a.length 1 = i :: rest ∧ Q (.int (i : Nat)) H) to ta) (dM mIndex f h) :=
  ⟨pe_m1 PySem.F.slot_str_index PySem.F.type_str_index mt_sindex ho.pe ha.pe hs hbase hline, tM1_sim ho.sim ha.sim sim_index mIndex_ne⟩
/-! ### slices -/
def SimO (K : Fg) (cl : Nat → Addr) (W : WX) (to : TO) (f : Dv → Res (Option Int)) : Prop := ∀ (δ : Dv) (σ : L2.St) (H : Hp) (Q : Option Int → Hp → Prop), EnvD K H σ δ →
  (f δ).on (fun o => ∀ H', Same H H' → Q o H') (fun c => ∀ H', Same H H' → W (.ref (cl c)) none σ H') → to σ H Q
structure QO (X : Cx) (cl : Nat → Addr) (W : WX) (e : Option Expr) (to : TO) (f : Dv → Res (Option Int)) : Prop where
  po : PO X e to
  sim : SimO X.K cl W to f
def dNoP : Dv → Res (Option Int) := fun _ => .ok none
def asI (d : D) : Res Int := match d with
  | .int i => .ok i
  | _ => .stuck
def dPt (f : Dv → Res D) : Dv → Res (Option Int) := fun δ => (f δ).bind fun d => (asI d).bind fun i => .ok (some i)
theorem o_none : QO X cl W none tNoPart dNoP := ⟨po_none, fun δ σ H Q en po => po H (Same.refl H)⟩
theorem o_some (ha : QE X cl W a ta f) : QO X cl W (some a) (tPart ta) (dPt f) := by
  refine ⟨po_some ha.pe, fun δ σ H Q en po => ?_⟩
  show ta σ H _
  refine ha.sim.chain (P := fun H (r : Res (Option Int)) => r.on (fun o => ∀ H', Same H H' → Q o H') (fun c => ∀ H', Same H H' → W (.ref (cl c)) none σ H')) en po (fun c h => h) (fun H h => h) fun d v H1 _ s1 r1 p1 => ?_
  cases d with
  | int i =>
    obtain rfl := rp_int r1
    exact ⟨i, rfl, p1 H1 s1⟩
  | _ => exact p1.elim
def cutL {α : Type} (l : List α) (lo hi : Option Int) : List α := (l.drop (HT.sIx l.length 0 lo)).take (HT.sIx l.length l.length hi - HT.sIx l.length 0 lo)
def oSl (d : D) (lo hi : Option Int) : Res D := match d with
  | .str l => Res.need (l.length ≤ big) (.ok (.str (cutL l lo hi)))
  | .tuple l => .ok (.tuple (cutL l lo hi))
  | .list l => .ok (.list (cutL l lo hi))
  | _ => .stuck
theorem oSl_ne (d : D) (lo hi : Option Int) : noExc (oSl d lo hi) := by
  unfold oSl
  split
  · exact need_noExc ok_noExc
  · exact ok_noExc
  · exact ok_noExc
  · exact stuck_noExc
theorem RpAll.cut {H : Hp} {l : List D} {xs : List V} (h : RpAll K H l xs) (lo hi : Option Int) : RpAll K H (cutL l lo hi) (cutV xs lo hi) := by
  unfold cutL cutV
  rw [h.length]
  exact (h.drop _).take _
theorem cutS_S (l : List Nat) (lo hi : Option Int) : cutS (S l) lo hi = S (cutL l lo hi) := by
  unfold cutS cutL
  rw [S_list, S_len]
  rfl
theorem cutL_whole {α : Type} {l : List α} {lo hi : Option Int} (h : HT.sIx l.length 0 lo = 0 ∧ HT.sIx l.length l.length hi = l.length) : cutL l lo hi = l := by
  unfold cutL
  rw [h.1, h.2, List.drop_zero, Nat.sub_zero, List.take_length]
def rSlAll (K : Fg) : V → Option Int → Option Int → Hp → VK → Prop := fun x lo hi H Q => rSlS x lo hi H Q ∨ rSlA K x lo hi H Q ∨ rSlL K x lo hi H Q
theorem sl_all : SlR X (rSlAll X.K) := SlR.or sl_str (SlR.or sl_tupA sl_list)
theorem sim_sl {d : D} {x : V} {lo hi : Option Int} {σ : L2.St} {H : Hp} {Q : VK} (r : Rp K H d x) (po : PostF K cl W0 σ H (oSl d lo hi) Q) : rSlAll K x lo hi H Q := by
  unfold oSl at po
  split at po
  · obtain ⟨hc, po⟩ := need_on po
    obtain rfl := rp_str r
    exact .inl ⟨_, rfl, by rw [S_len]; exact big_le hc, by rw [cutS_S]; exact po _ H (Same.refl H) (rps _) (fresh_no rfl)⟩
  · obtain ⟨a, xs, rfl, ha, hx⟩ := rp_tup r
    refine .inr (.inl ⟨a, xs, rfl, ha, fun hw => ?_, fun _ p hp => ?_⟩)
    · rw [hx.length] at hw
      rw [cutL_whole hw] at po
      exact po _ H (Same.refl H) (rpt ha hx) (fresh_no rfl)
    · have s := same_new (o := .tup (cutV xs lo hi)) hp
      exact po _ _ s (rpt (Or.inl (Or.inl upd_same)) (RpAll.mono s _ _ (hx.cut lo hi))) (fresh_no rfl)
  · obtain ⟨a, xs, rfl, ha, hx⟩ := rp_list r
    refine .inr (.inr ⟨a, xs, rfl, Or.inl (Or.inl ha), fun p hp => ?_⟩)
    have s := same_new (o := .lst (cutV xs lo hi)) hp
    exact po _ _ s (rpl upd_same (RpAll.mono s _ _ (hx.cut lo hi))) (fresh_of hp)
  · exact po.elim
def dSl (f : Dv → Res D) (l u : Dv → Res (Option Int)) : Dv → Res D := fun δ => (f δ).bind fun d => (l δ).bind fun lo => (u δ).bind fun hi => oSl d lo hi
theorem q_sl {lo hi : Option Expr} {tl th : TO} {fl fu : Dv → Res (Option Int)} {p2 : Pos} (ho : QE X cl W o to f) (hl : QO X cl W lo tl fl) (hu : QO X cl W hi th fu) : QF X cl W (.Subscript o (.Slice lo hi none p2) pos) (tSl (rSlAll X.K) to tl th) (dSl f fl fu) := by
  refine ⟨pe_slice sl_all ho.pe hl.po hu.po, fun δ σ H Q en po => ?_⟩
  show to σ H _
  refine ho.sim.chain (P := fun H r => PostF X.K cl W σ H r Q) en po (fun c h => h) (fun H h => h) fun d v H1 _ s1 r1 p1 => ?_
  have p1 := p1.weak s1
  show tl σ H1 _
  refine hl.sim δ σ H1 _ (en.mono s1) ?_
  change PostF X.K cl W σ H1 ((fl δ).bind _) Q at p1
  cases q1 : fl δ with
  | exc c => rw [q1] at p1; exact p1
  | stuck => rw [q1] at p1; exact p1
  | ok lo' =>
    rw [q1, Res.ok_bind] at p1
    intro H2 s2
    have p2 := p1.weak s2
    show th σ H2 _
    refine hu.sim δ σ H2 _ (en.mono (s1.trans s2)) ?_
    cases q2 : fu δ with
    | exc c => rw [q2] at p2; exact p2
    | stuck => rw [q2] at p2; exact p2
    | ok hi' =>
      rw [q2, Res.ok_bind] at p2
      intro H3 s3
      have p3 := p2.weak s3
      refine sim_sl (cl := cl) (σ := σ) (Rp.mono (s2.trans s3) _ _ r1) ?_
      cases q3 : oSl d lo' hi' with
      | ok d => rw [q3] at p3; exact p3
      | exc c => exact (oSl_ne _ _ _ c q3).elim
      | stuck => rw [q3] at p3; exact p3
end
end DL
namespace DL
open PySem L2
/-! ### s[::-1], s[:0:-1] of a text; l[::-1] of a list -/
theorem rev_all (l : List Nat) : ((Builtin.Str.strSliceIndices none none (-1) l.length).filterMap (fun i => (S l).cps[i]?)).toArray = l.reverse.toArray := by
  have e : Builtin.Str.strSliceIndices none none (-1) l.length = sliceRange ((l.length : Int) - 1) (-1) (-1) := rfl
  have h := PySem.W.krv_all (S l).cps
  have sz : (S l).cps.size = l.length := by simp [S]
  rw [sz, S_list] at h
  rw [e, PySem.W.krv_sliceRange, PySem.W.krv_range, List.filterMap_reverse, h]
theorem sliceRange_back (n : Nat) : sliceRange ((n : Int) - 1) (max (-1) (min 0 ((n : Int) - 1))) (-1) = (List.range (n - 1)).map fun k => n - 1 - k := by
  unfold sliceRange
  have h1 : ¬ ((-1 : Int) > 0) := by decide
  cases n with
  | zero => rfl
  | succ m =>
    have e0 : max (-1) (min 0 (((m + 1 : Nat) : Int) - 1)) = 0 := by omega
    rw [e0]
    by_cases h : (((m + 1 : Nat) : Int) - 1) > 0
    · have e : (((m + 1 : Nat) : Int) - 1 - 0 - -1 - 1) / (- -1) = (m : Int) := by
        rw [show (- -1 : Int) = 1 by decide, Int.ediv_one]
        omega
      simp only [h1, if_false, h, if_true, e, Int.toNat_natCast]
      apply List.map_congr_left
      intro k hk
      have := List.mem_range.mp hk
      omega
    · have e : m = 0 := by omega
      subst e
      rfl
theorem rev_tail (l : List Nat) : ((Builtin.Str.strSliceIndices none (some 0) (-1) l.length).filterMap (fun i => (S l).cps[i]?)).toArray = (l.drop 1).reverse.toArray := by
  have e : Builtin.Str.strSliceIndices none (some 0) (-1) l.length = sliceRange ((l.length : Int) - 1) (max (-1) (min 0 ((l.length : Int) - 1))) (-1) := rfl
  rw [e, sliceRange_back]
  congr 1
  apply List.ext_getElem?
  intro i
  have key : (((List.range (l.length - 1)).map fun k => l.length - 1 - k).filterMap fun i => (S l).cps[i]?) = (List.range (l.length - 1)).map fun k => l.getD (l.length - 1 - k) 0 := by
    rw [List.filterMap_map]
    have gen : ∀ m, m ≤ l.length - 1 → (List.range m).filterMap ((fun i => (S l).cps[i]?) ∘ fun k => l.length - 1 - k) = (List.range m).map fun k => l.getD (l.length - 1 - k) 0 := by
      intro m
      induction m with
      | zero => intro _; rfl
      | succ m ih =>
        intro hm
        rw [List.range_succ, List.filterMap_append, List.map_append, ih (by omega)]
        congr 1
        have : l.length - 1 - m < l.length := by omega
        simp [S, List.getD, this]
    exact gen _ (Nat.le_refl _)
  rw [key, List.getElem?_map]
  by_cases hi : i < l.length - 1
  · rw [List.getElem?_range hi, List.getElem?_reverse (by rw [List.length_drop]; omega), List.length_drop, List.getElem?_drop]
    have e1 : 1 + (l.length - 1 - 1 - i) = l.length - 1 - i := by omega
    rw [e1]
    have : l.length - 1 - i < l.length := by omega
    simp [List.getD, this]
  · rw [List.getElem?_eq_none (by rw [List.length_range]; omega), List.getElem?_eq_none (by rw [List.length_reverse, List.length_drop]; omega)]
    rfl
section
variable {X : Cx} {cl : Nat → Addr} {W : WX} {e : Expr} {te : TE} {f : Dv → Res D} {k : Nat} {p1 p2 p3 pos : Pos}
/-- to the end, or without the first -/
def tRevS (te : TE) (g : List Nat → List Nat) : TE := fun σ H Q => te σ H fun x H1 => ∃ l, x = .str (S l) ∧ l.length ≤ big ∧ Q (.str (S (g l))) H1
theorem rev_core {hi : Option Expr} {th : TO} {o : Option Int} {g : List Nat → List Nat} (hh : PO X hi th) (he : PE X e te) (ho : ∀ σ H Q, Q o H → th σ H Q) (hg : ∀ l : List Nat, ((Builtin.Str.strSliceIndices none o (-1) l.length).filterMap (fun i => (S l).cps[i]?)).toArray = (g l).toArray) (hl : ∀ l, (g l).length ≤ l.length) :
    PE X (.Subscript e (.Slice none hi (some (.UnaryOp .USub (.Constant (.int 1) k p1) p2)) p3) pos) (tRevS te g) := by
  refine ⟨fun pins s σ H Q I h => ?_⟩
  refine PyProof.Rows.Subscript_ (thn (he.run pins s σ H _ I h) fun v s1 ⟨x, H1, I1, r1, q1⟩ => ?_)
  obtain ⟨l, ex, hz, q⟩ := q1
  subst ex
  obtain ⟨t, rfl⟩ := r1
  have hst : PO X (some (.UnaryOp .USub (.Constant (.int 1) k p1) p2)) (tPart (tUn (rU fun i => .int (-i)) (tC (.int 1)))) := po_some (pe_un un_neg pe_int)
  refine wpAny_Slice (thn (po_none.run pins s1 σ H1 (fun o H2 => o = none ∧ H2 = H1) I1 ⟨rfl, rfl⟩) fun vl s2 ⟨lo, H2, I2, pl, el, e2⟩ => ?_)
  subst el e2
  refine thn (hh.run pins s2 σ H2 (fun o' H3 => o' = o ∧ H3 = H2) I2 (ho _ _ _ ⟨rfl, rfl⟩)) fun vu s3 ⟨u, H3, I3, pu, eu, e3⟩ => ?_
  subst eu e3
  refine thn (hst.run pins s3 σ H3 (fun o H4 => o = some (-1) ∧ H4 = H3) I3 ⟨1, rfl, -1, rfl, rfl, rfl⟩) fun vs s4 ⟨o2, H4, I4, ps, eo, e4⟩ => ?_
  subst eo e4
  have I5 : L2.Inv X pins σ H4 { s4 with heap := s4.heap.push { cls := .type "slice", data := .fields #[vl, vu, vs] } } := I4.kept (t' := s4.toks) fun b ob q => Heap.get?_push_of_some _ q
  show wpAny (model X.prog X.w) X.A (PyProof.Rows.subscriptTail e (.Slice none hi (some (.UnaryOp .USub (.Constant (.int 1) k p1) p2)) p3) (.str (S l) t) (.ref s4.heap.objs.size)) (EP X pins σ Q) X.xe { s4 with heap := s4.heap.push { cls := .type "slice", data := .fields #[vl, vu, vs] } }
  obtain ⟨l1, rfl, el1⟩ := IsPart.raw pl
  obtain ⟨u1, rfl, eu1⟩ := IsPart.raw pu
  obtain ⟨s1', rfl, es1⟩ := IsPart.raw ps
  refine PyProof.Rows.tail_any (ops := [.ref s4.heap.objs.size, .str (S l) t]) (typeIs_str _ _ _) F.slot_str_getitem.lookup ?_ (by with_unfolding_all rfl)
  refine wpAny_getItem_str_slice (l := l1) (u := u1) (st := s1') ⟨_, Heap.get?_push_size _ rfl, rfl, rfl⟩ (by rw [es1]; rfl) ?_
  unfold sliceMade
  have ne1 : ¬ (((s1'.map (·.1)).getD 1 == 1) && (slicePicked (S l) l1 u1 s1').length == (S l).length) = true := by
    rw [es1]
    show ¬ (((-1 : Int) == 1) && _) = true
    simp
  rw [if_neg ne1]
  have epick : slicePicked (S l) l1 u1 s1' = Builtin.Str.strSliceIndices none u (-1) l.length := by
    unfold slicePicked
    rw [el1, eu1, es1, S_len]
    rfl
  rw [epick, hg]
  refine ⟨?_, .str (S (g l)), H4, I5.tok _, ⟨_, rfl⟩, q⟩
  show (S (g l)).length ≤ sizeLine
  rw [S_len]
  exact big_le (Nat.le_trans (hl l) hz)
def oRevS (g : List Nat → List Nat) (d : D) : Res D := match d with
  | .str l => Res.need (l.length ≤ big) (.ok (.str (g l)))
  | _ => .stuck
theorem revS_sim {g : List Nat → List Nat} (s : SimE X.K cl W te f) : SimF X.K cl W (tRevS te g) (fun δ => (f δ).bind (oRevS g)) := by
  intro δ σ H Q en po
  show te σ H _
  refine s.chain (P := fun H r => PostF X.K cl W σ H r Q) en po (fun c h => h) (fun H h => h) fun d v H1 _ s1 r1 p1 => ?_
  cases d with
  | str l =>
    obtain ⟨hc, p1⟩ := need_on p1
    obtain rfl := rp_str r1
    exact ⟨l, rfl, hc, p1 _ H1 s1 (rps _) (fresh_no rfl)⟩
  | _ => exact p1.elim
theorem q_revS (he : QE X cl W e te f) : QF X cl W (.Subscript e (.Slice none none (some (.UnaryOp .USub (.Constant (.int 1) k p1) p2)) p3) pos) (tRevS te List.reverse) (fun δ => (f δ).bind (oRevS List.reverse)) :=
  ⟨rev_core po_none he.pe (fun _ _ _ h => h) rev_all (fun l => by rw [List.length_reverse]; exact Nat.le_refl _), revS_sim he.sim⟩
theorem q_revT {j : Nat} {p4 : Pos} (he : QE X cl W e te f) : QF X cl W (.Subscript e (.Slice none (some (.Constant (.int 0) j p4)) (some (.UnaryOp .USub (.Constant (.int 1) k p1) p2)) p3) pos) (tRevS te fun l => (l.drop 1).reverse) (fun δ => (f δ).bind (oRevS fun l => (l.drop 1).reverse)) :=
  ⟨rev_core (po_some pe_int) he.pe (fun _ _ _ h => ⟨0, rfl, h⟩) rev_tail (fun l => by rw [List.length_reverse, List.length_drop]; omega), revS_sim he.sim⟩
end
/-! ### comprehensions -/
section
variable {X : Cx} {cl : Nat → Addr} {W : WX} {elt tg iter : Expr} {ifs : List Expr} {scope : Scope} {own : List (Str × Nat)} {pos : Pos} {wi : TI} {g : TG} {tt : TT} {te : TE} {fi : Dv → Res (List D)} {k : D → Dv → Option Dv} {ft : Dv → Res Bool} {fe : Dv → Res D}
structure QTs (X : Cx) (cl : Nat → Addr) (W : WX) (es : List Expr) (tt : TT) (f : Dv → Res Bool) : Prop where
  pe : PTs X es tt
  sim : SimT X.K cl W tt f
def bYes : Dv → Res Bool := fun _ => .ok true
theorem ts_nil : QTs X cl W [] tYes bYes := ⟨pts_nil, fun δ σ H Q en po => po H (Same.refl H)⟩
theorem ts_one {c : Expr} (h : QT X cl W c tt ft) : QTs X cl W [c] tt ft := ⟨pts_one h.pe, h.sim⟩
structure QK (X : Cx) (vs : List Nat) (tg : Expr) (g : TG) (k : D → Dv → Option Dv) : Prop where
  pg : PG X tg g
  sim : SimK X.K vs g k
structure QKs (X : Cx) (vs : List Nat) (tg : List Expr) (g : TGs) (k : List D → Dv → Option Dv) : Prop where
  pg : PGs X tg g
  sim : SimKs X.K vs g k
theorem h_name {vs : List Nat} {i : Nat} {x : Str} {p : Pos} (hN : X.N.Nodup) (hi : X.N[i]? = some x) (hx : Loc X.env.scope x) (hv : i ∈ vs) (hf : X.fn x = true ∨ X.env.scope.names.lookup x = some .local := by first | exact .inl rfl | exact .inr rfl | assumption) : QK X vs (.Name x p) (gName i) (hName i) := ⟨pg_name hN hi hx hf, k_name hv⟩
theorem hs_nil {vs : List Nat} : QKs X vs [] gNil hNil := ⟨pgs_nil, ks_nil⟩
theorem hs_cons {vs : List Nat} {e : Expr} {es : List Expr} {t : TG} {u : TGs} {ks : List D → Dv → Option Dv} (h1 : QK X vs e t k) (h2 : QKs X vs es u ks) (hs : (assignEach (e :: es) X.env).map (·.2) = assign e X.env :: (assignEach es X.env).map (·.2) := by rfl) : QKs X vs (e :: es) (gCons t u) (hCons k ks) :=
  ⟨pgs_cons h1.pg h2.pg hs, ks_cons h1.sim h2.sim⟩
theorem h_tup {vs : List Nat} {es : List Expr} {kk n : Nat} {u : TGs} {ks : List D → Dv → Option Dv} {p : Pos} (hc : X.calm = true) (h : QKs X vs es u ks) (hn : (assignEach es X.env).length = n := by rfl) (hst : (assignEach es X.env).findIdx? (·.1) = none := by rfl) : QK X vs (.Tuple es kk p) (gTup X.K n u) (hTup n ks) :=
  ⟨pg_tup hc h.pg hn hst, k_tup h.sim⟩
/-- what [elt for tg in iter if ..] comes to -/
def dLc (vs : List Nat) (fi : Dv → Res (List D)) (k : D → Dv → Option Dv) (ft : Dv → Res Bool) (fe : Dv → Res D) : Dv → Res D := fun δ => (fi δ).bind fun xs => calmly (Res.need (xs.length ≤ big) ((compM (compOne k ft fe (wipeD δ vs)) xs).bind fun ys => .ok (.list ys)))
/-! the reading by the data alone: it is the same in every block -/
def canE (K : Fg) (cl : Nat → Addr) (W : WX) (f : Dv → Res D) : TE := fun σ H Q => ∃ δ, EnvD K H σ δ ∧ PostE K cl W σ H (f δ) Q
def canT (K : Fg) (cl : Nat → Addr) (W : WX) (f : Dv → Res Bool) : TT := fun σ H Q => ∃ δ, EnvD K H σ δ ∧ PostB cl W σ H (f δ) Q
def canG (K : Fg) (vs : List Nat) (k : D → Dv → Option Dv) : TG := fun v σ H Q => ∃ d δ δ', EnvD K H σ δ ∧ Rp K H d v ∧ k d δ = some δ' ∧ ∀ σ', EnvD K H σ' δ' → wipe σ' vs = wipe σ vs → Q σ' H
theorem QE.can {e : Expr} {te : TE} {f : Dv → Res D} (h : QE X cl W e te f) : QE X cl W e (canE X.K cl W f) f :=
  ⟨⟨fun pins s σ H Q I ⟨δ, en, po⟩ => h.pe.run pins s σ H Q I (h.sim δ σ H Q en po)⟩, fun δ _ _ _ en po => ⟨δ, en, po⟩⟩
theorem QTs.can {es : List Expr} {tt : TT} {f : Dv → Res Bool} (h : QTs X cl W es tt f) : QTs X cl W es (canT X.K cl W f) f :=
  ⟨⟨fun pins s σ H Q I ⟨δ, en, po⟩ => h.pe.run pins s σ H Q I (h.sim δ σ H Q en po)⟩, fun δ _ _ _ en po => ⟨δ, en, po⟩⟩
theorem QK.can {vs : List Nat} {tg : Expr} {g : TG} (h : QK X vs tg g k) : QK X vs tg (canG X.K vs k) k :=
  ⟨⟨fun pins s σ H v u Q I r ⟨d, δ, δ', en, rp, kk, hq⟩ => h.pg.run pins s σ H v u Q I r (h.sim H σ δ δ' d v Q en rp kk hq)⟩, fun H σ δ δ' d v Q en rp kk hq => ⟨d, δ, δ', en, rp, kk, hq⟩⟩
theorem q_lc (hc : X.calm = true) (hN : X.N.Nodup) (hi : QJ X cl W tg iter wi fi) (ok : BlkOk X.N X.env.scope scope own)
    (hg : ∀ (s : Shared) (H : Hp) (C : Addr) (cs : List (Str × Addr)) (fp : List Addr), ∃ g, QK (X.blk s H scope (compEnvC scope cs C X.env) fp) (own.map (·.2)) tg g k)
    (ht : ∀ (s : Shared) (H : Hp) (C : Addr) (cs : List (Str × Addr)) (fp : List Addr), ∃ tt, QTs (X.blk s H scope (compEnvC scope cs C X.env) fp) cl W0 ifs tt ft)
    (he : ∀ (s : Shared) (H : Hp) (C : Addr) (cs : List (Str × Addr)) (fp : List Addr), ∃ te, QE (X.blk s H scope (compEnvC scope cs C X.env) fp) cl W0 elt te fe) (hs : ∀ x, foldedSetIterable iter X.env x = pure x := by intro _; rfl) :
    QF X cl W (.ListComp elt [⟨tg, iter, ifs, 0⟩] scope pos) (tLc wi (canG X.K (own.map (·.2)) k) (canT X.K cl W0 ft) (canE X.K cl W0 fe) (own.map (·.2))) (dLc (own.map (·.2)) fi k ft fe) := by
  have hg' : ∀ (s : Shared) (H : Hp) (C : Addr) (cs : List (Str × Addr)) (fp : List Addr), QK (X.blk s H scope (compEnvC scope cs C X.env) fp) (own.map (·.2)) tg (canG X.K (own.map (·.2)) k) k := fun s H C cs fp => by
    obtain ⟨_, h⟩ := hg s H C cs fp
    exact h.can
  have ht' : ∀ (s : Shared) (H : Hp) (C : Addr) (cs : List (Str × Addr)) (fp : List Addr), QTs (X.blk s H scope (compEnvC scope cs C X.env) fp) cl W0 ifs (canT X.K cl W0 ft) ft := fun s H C cs fp => by
    obtain ⟨_, h⟩ := ht s H C cs fp
    exact h.can
  have he' : ∀ (s : Shared) (H : Hp) (C : Addr) (cs : List (Str × Addr)) (fp : List Addr), QE (X.blk s H scope (compEnvC scope cs C X.env) fp) cl W0 elt (canE X.K cl W0 fe) fe := fun s H C cs fp => by
    obtain ⟨_, h⟩ := he s H C cs fp
    exact h.can
  refine ⟨pe_lc hc hN hi.pi ok (fun s H C cs fp => (hg' s H C cs fp).pg) (fun s H C cs fp => (ht' s H C cs fp).pe) (fun s H C cs fp => (he' s H C cs fp).pe) hs, ?_⟩
  have s0 : Shared := X.s_0
  exact lc_sim hi.sim (hg' s0 X.H_0 0 [] []).sim (ht' s0 X.H_0 0 [] []).sim (he' s0 X.H_0 0 [] []).sim
/-- name = [..] on one line -/
theorem s_setLc0 {i : Nat} {y : Str} {py spos : Pos} (hc : X.calm = true) (hN : X.N.Nodup) (hy : X.N[i]? = some y) (hyl : X.env.scope.names.lookup y = some .local) (sw : swapsWith (.ListComp elt [⟨tg, iter, ifs, 0⟩] scope pos) (some (.Name y py)) spos.line X.env = pure true) (hi : QJ X cl W tg iter wi fi) (ok : BlkOk X.N X.env.scope scope own)
    (hg : ∀ (s : Shared) (H : Hp) (C : Addr) (cs : List (Str × Addr)) (fp : List Addr), ∃ g, QK (X.blk s H scope (compEnvC scope cs C X.env) fp) (own.map (·.2)) tg g k)
    (ht : ∀ (s : Shared) (H : Hp) (C : Addr) (cs : List (Str × Addr)) (fp : List Addr), ∃ tt, QTs (X.blk s H scope (compEnvC scope cs C X.env) fp) cl W0 ifs tt ft)
    (he : ∀ (s : Shared) (H : Hp) (C : Addr) (cs : List (Str × Addr)) (fp : List Addr), ∃ te, QE (X.blk s H scope (compEnvC scope cs C X.env) fp) cl W0 elt te fe) (hs : ∀ x, foldedSetIterable iter X.env x = pure x := by intro _; rfl) :
    PS X (.Assign [.Name y py] (.ListComp elt [⟨tg, iter, ifs, 0⟩] scope pos) spos) (tAsg (tLc wi (canG X.K (own.map (·.2)) k) (canT X.K cl W0 ft) (canE X.K cl W0 fe) (own.map (·.2))) (gName i)) ∧
      SimF X.K cl W (tLc wi (canG X.K (own.map (·.2)) k) (canT X.K cl W0 ft) (canE X.K cl W0 fe) (own.map (·.2))) (dLc (own.map (·.2)) fi k ft fe) := by
  have hg' : ∀ (s : Shared) (H : Hp) (C : Addr) (cs : List (Str × Addr)) (fp : List Addr), QK (X.blk s H scope (compEnvC scope cs C X.env) fp) (own.map (·.2)) tg (canG X.K (own.map (·.2)) k) k := fun s H C cs fp => by
    obtain ⟨_, h⟩ := hg s H C cs fp
    exact h.can
  have ht' : ∀ (s : Shared) (H : Hp) (C : Addr) (cs : List (Str × Addr)) (fp : List Addr), QTs (X.blk s H scope (compEnvC scope cs C X.env) fp) cl W0 ifs (canT X.K cl W0 ft) ft := fun s H C cs fp => by
    obtain ⟨_, h⟩ := ht s H C cs fp
    exact h.can
  have he' : ∀ (s : Shared) (H : Hp) (C : Addr) (cs : List (Str × Addr)) (fp : List Addr), QE (X.blk s H scope (compEnvC scope cs C X.env) fp) cl W0 elt (canE X.K cl W0 fe) fe := fun s H C cs fp => by
    obtain ⟨_, h⟩ := he s H C cs fp
    exact h.can
  refine ⟨ps_setLc hc hN hy hyl sw hi.pi ok (fun s H C cs fp => (hg' s H C cs fp).pg) (fun s H C cs fp => (ht' s H C cs fp).pe) (fun s H C cs fp => (he' s H C cs fp).pe) hs, ?_⟩
  have s0 : Shared := X.s_0
  exact lc_sim hi.sim (hg' s0 X.H_0 0 [] []).sim (ht' s0 X.H_0 0 [] []).sim (he' s0 X.H_0 0 [] []).sim
end
end DL
namespace DL
open PySem L2
section
variable {X : Cx} {cl : Nat → Addr} {W : WX} {K : Fg}
/-! ### a slot is filled: read only, or as the body's own -/
def mk (m : Bool) (x : D) : Option Sl := some (if m = true then .ow x else .fz x)
def okM (m : Bool) (x : D) : Prop := calm x = true ∧ (m = true → isBox x = true ∧ notScr x = true)
theorem SQ.putM {H0 H H' : Hp} {ε : Env} {σ : L2.St} {v : V} {d : D} {i : Nat} {m : Bool} (h : SQ K H0 ε σ H) (hi : i < ε.length) (c : okM m d) (s : Same H H') (r : Rp K H' d v) (fr : Fresh H v d) : SQ K H0 (ε.set i (mk m d)) (σ.set i (some v)) H' := by
  cases m with
  | true => exact h.putOwn hi (c.2 rfl).1 (fun ns z => by subst z; exact Bool.noConfusion (c.2 rfl).2) c.1 s r fr
  | false => exact h.put hi c.1 s r fr
/-! ### x, y = a, b -/
def gPar (i j : Nat) (m n : Bool) (f h : Dv → Res D) : DS := fun d ε => (f (view ε)).on (fun x => (h (view ε)).on (fun y => (i < ε.length ∧ j < ε.length ∧ okM m x ∧ okM n y) ∧ d.nx ((ε.set i (mk m x)).set j (mk n y))) (fun c => d.ex c ε)) (fun c => d.ex c ε)
variable {a b c : Expr} {ta tb tc : TE} {f h l : Dv → Res D} {pos px py pz pt pt2 : Pos} {kt k2 : Nat}
theorem s_par {i j : Nat} (m n : Bool) {x y : Str} (ha : QF X cl W a ta f) (hb : QF X cl W b tb h) (hc : X.calm = true) (hN : X.N.Nodup) (hi : X.N[i]? = some x) (hj : X.N[j]? = some y) (hij : i ≠ j)
    (hx : X.env.scope.names.lookup x = some .local) (hy : X.env.scope.names.lookup y = some .local) (hw : swappedStores [.Tuple [.Name x px, .Name y py] kt pt] (.Tuple [a, b] k2 pt2) X.env = pure (some [x, y]))
    (hs : swapsWithSole [.Tuple [.Name x px, .Name y py] kt pt] (.Tuple [a, b] k2 pt2) pos.line X.env = pure false := by rfl) (st1 : starEach [a, b] X.env = (false, eval a X.env) :: starEach [b] X.env := by rfl) (st2 : starEach [b] X.env = (false, eval b X.env) :: starEach [] X.env := by rfl) :
    QS X cl W (.Assign [.Tuple [.Name x px, .Name y py] kt pt] (.Tuple [a, b] k2 pt2) pos) (tPar i j (tCons ta (tCons tb tNil))) (gPar i j m n f h) := by
  refine ⟨ps_par hc hN hi hj hij hx hy (pa_cons ha.pe (pa_cons hb.pe pa_nil st2) st1) hw hs, fun H0 d D' ε σ H en q hh => ?_⟩
  show ta σ H _
  refine ha.sim.runS en q hh fun u v H1 _ s1 r1 f1 h1 => ?_
  show tb σ H1 _
  refine hb.sim.runS en (q.mono s1) h1 fun u2 w H2 _ s2 r2 f2 h2 => ?_
  obtain ⟨⟨l1, l2, o1, o2⟩, nx⟩ := h2
  refine ⟨v, w, rfl, en.nx _ _ _ (SQ.putM (SQ.putM q l1 o1 s1 r1 f1) (by rw [List.length_set]; exact l2) o2 s2 r2 f2) nx⟩
/-! ### methods that change a list of the body's own -/
variable {o : Expr} {to te : TE} {apos cpos : Pos}
theorem SQ.own_at {H0 H : Hp} {ε : Env} {σ : L2.St} {i : Nat} {l : List D} (q : SQ K H0 ε σ H) (h : ε[i]? = some (some (.ow (.list l)))) : ∃ a xs, σ[i]? = some (some (.ref a)) ∧ H a = some (.lst xs) ∧ RpAll K H l xs := by
  obtain ⟨⟨M, t1, b, f0, ow, n⟩, len⟩ := q
  obtain ⟨a, h1, h2, h3, h4, h5⟩ := ow i _ h
  obtain ⟨a', xs, e, ha, hx⟩ := rp_list h5
  cases e
  exact ⟨a, xs, h1, ha, hx⟩
def gApp (i : Nat) (f : Dv → Res D) : DS := fun d ε => ∃ l, ε[i]? = some (some (.ow (.list l))) ∧ immAll l = true ∧ (f (view ε)).on (fun x => imm x = true ∧ l.length < big ∧ d.nx (ε.set i (some (.ow (.list (l ++ [x])))))) (fun c => d.ex c ε)
theorem immAll_app {a b : List D} (h1 : immAll a = true) (h2 : immAll b = true) : immAll (a ++ b) = true := by
  rw [immAll_iff] at h1 h2 ⊢
  intro d hd
  rcases List.mem_append.mp hd with hd | hd
  · exact h1 d hd
  · exact h2 d hd
theorem immAll_one {d : D} (h : imm d = true) : immAll [d] = true := by
  unfold immAll
  rw [h]
  rfl
theorem s_app {i : Nat} (ho : PE X o (tVar i)) (he : QE X cl W a te f) (hs : starEach [a] X.env = (false, eval a X.env) :: starEach [] X.env := by rfl)
    (hbase : attributeBase o "append" X.env (eval o X.env) = eval o X.env := by rfl) (hfew : ((backTo cpos (starEach [a] X.env)).all (fun x => !x.1) && (backToKw cpos (keywordEach [] X.env)).all (fun x => x.1.isSome)
      && decide (([a] : List Expr).length + ([] : List Keyword).length + (if ([] : List Keyword).isEmpty then 0 else 1) < 30)) = true := by rfl) (hline : (apos.endLine == cpos.line) = true := by rfl) (hsw : swapsWith (.Call (.Attribute o "append" apos) [a] [] cpos) none pos.line X.env = pure false := by rfl) :
    QS X cl W (.Expr (.Call (.Attribute o "append" apos) [a] [] cpos) pos) (tDrop (tBM X.K "list" rAppend (tVar i) (tCons te tNil))) (gApp i f) := by
  refine ⟨ps_expr (pe_bm PySem.F.plainAttrs_list PySem.F.slot_list_append PySem.F.type_list_append mt_append ho (pa_cons he.pe pa_nil hs) (hbase := hbase) (hfew := hfew) (hline := hline) (hs := hs)) hsw, fun H0 d D' ε σ H en q hh => ?_⟩
  obtain ⟨l, hl, im, hh⟩ := hh
  obtain ⟨p, xs, h1, h2, h3⟩ := q.own_at hl
  refine ⟨.ref p, h1, .inl ⟨rfl, xs, Or.inl (Or.inl h2)⟩, ?_⟩
  show te σ H _
  refine he.sim.runS en q hh fun x v H1 _ s1 r1 ⟨i1, i2, i3⟩ => ?_
  refine ⟨p, xs, v, rfl, rfl, s1 _ _ h2, ?_, ?_⟩
  · rw [h3.length]; exact big_lt (Nat.le_of_lt i2)
  · exact en.nx _ _ _ ((q.mono s1).change hl h1 (immAll_app im (immAll_one i1)) ((RpAll.mono s1 _ _ h3).append (.cons r1 .nil))) i3
def gExt (i : Nat) (f : Dv → Res D) : DS := fun d ε => ∃ l, ε[i]? = some (some (.ow (.list l))) ∧ immAll l = true ∧ (f (view ε)).on (fun x => ∃ m, x = .list m ∧ immAll m = true ∧ l.length + m.length ≤ big ∧ d.nx (ε.set i (some (.ow (.list (l ++ m)))))) (fun c => d.ex c ε)
theorem s_ext {i : Nat} (ho : PE X o (tVar i)) (he : QE X cl W a te f) (hs : starEach [a] X.env = (false, eval a X.env) :: starEach [] X.env := by rfl)
    (hbase : attributeBase o "extend" X.env (eval o X.env) = eval o X.env := by rfl) (hfew : ((backTo cpos (starEach [a] X.env)).all (fun x => !x.1) && (backToKw cpos (keywordEach [] X.env)).all (fun x => x.1.isSome)
      && decide (([a] : List Expr).length + ([] : List Keyword).length + (if ([] : List Keyword).isEmpty then 0 else 1) < 30)) = true := by rfl) (hline : (apos.endLine == cpos.line) = true := by rfl) (hsw : swapsWith (.Call (.Attribute o "extend" apos) [a] [] cpos) none pos.line X.env = pure false := by rfl) :
    QS X cl W (.Expr (.Call (.Attribute o "extend" apos) [a] [] cpos) pos) (tDrop (tBM X.K "list" rExtend (tVar i) (tCons te tNil))) (gExt i f) := by
  refine ⟨ps_expr (pe_bm PySem.F.plainAttrs_list PySem.F.slot_list_extend PySem.F.type_list_extend mt_extend ho (pa_cons he.pe pa_nil hs) (hbase := hbase) (hfew := hfew) (hline := hline) (hs := hs)) hsw, fun H0 d D' ε σ H en q hh => ?_⟩
  obtain ⟨l, hl, im, hh⟩ := hh
  obtain ⟨p, xs, h1, h2, h3⟩ := q.own_at hl
  refine ⟨.ref p, h1, .inl ⟨rfl, xs, Or.inl (Or.inl h2)⟩, ?_⟩
  show te σ H _
  refine he.sim.runS en q hh fun x v H1 _ s1 r1 hk => ?_
  obtain ⟨m, rfl, im2, hz, nx⟩ := hk
  obtain ⟨b, ys, rfl, hb, hy⟩ := rp_list r1
  refine ⟨p, b, xs, ys, rfl, rfl, s1 _ _ h2, hb, ?_, ?_⟩
  · rw [h3.length, hy.length]; exact big_le hz
  · exact en.nx _ _ _ ((q.mono s1).change hl h1 (immAll_app im im2) ((RpAll.mono s1 _ _ h3).append hy)) nx
/-- l.remove(c), texts -/
def rRemS : V → List V → Hp → VK → Prop := fun x xs H Q => ∃ (l : Addr) (ns : List Str) (k : Str) (j : Nat), x = .ref l ∧ xs = [.str k] ∧ H l = some (.lst (ns.map V.str)) ∧ ns[j]? = some k ∧ (∀ m : Nat, m < j → ns[m]? ≠ some k) ∧ Q .non (upd H l (.lst ((ns.eraseIdx j).map V.str)))
theorem strs_get {ns : List Str} {its : List Value} (r : Vals (ns.map V.str) its) {m : Nat} {z : Str} (h : ns[m]? = some z) : ∃ t : Tok, its[m]? = some (Value.str z t) := by
  have : ∀ (ns : List Str) (its : List Value), Vals (ns.map V.str) its → ∀ (m : Nat) (z : Str), ns[m]? = some z → ∃ t : Tok, its[m]? = some (Value.str z t) := by
    intro ns
    induction ns with
    | nil => intro its r m z h; cases h
    | cons n ns ih =>
      intro its r m z h
      cases r with
      | cons r1 r2 =>
        cases m with
        | zero =>
          cases h
          obtain ⟨t, rfl⟩ := r1
          exact ⟨t, rfl⟩
        | succ m => exact ih _ r2 m z h
  exact this ns its r m z h
theorem erase_mapS (f : Str → V) : ∀ (ns : List Str) (j : Nat), (ns.map f).eraseIdx j = (ns.eraseIdx j).map f
  | [], _ => rfl
  | n :: ns, 0 => rfl
  | n :: ns, j + 1 => by
    show f n :: (ns.map f).eraseIdx j = f n :: (ns.eraseIdx j).map f
    rw [erase_mapS f ns j]
def eqs (k : Str) : Value → Bool
  | .str a _ => a == k
  | _ => false
theorem mt_removeS : MtM X "list.remove" rRemS := by
  intro pins s σ H x xs v us Q I rx rxs h
  obtain ⟨l, ns, k, j, rfl, rfl, hH, hj, hno, q⟩ := h
  cases rx
  obtain ⟨u, rfl, ru⟩ := rxs.one
  obtain ⟨t, rfl⟩ := ru
  obtain ⟨z, its, n, r, hl, e⟩ := I.lstM hH
  rw [List.length_map] at hl z
  have hjn : j < ns.length := (List.getElem?_eq_some_iff.mp hj).1
  have hjl : j < its.toArray.size := by rw [List.size_toArray]; omega
  have gives : ∀ y ∈ its, MeetsSeq.EqGives y (.str k t) (eqs k y) := by
    have : ∀ (ns : List Str) (its : List Value), Vals (ns.map V.str) its → ∀ y ∈ its, MeetsSeq.EqGives y (.str k t) (eqs k y) := by
      intro ns
      induction ns with
      | nil => intro its r y hy; cases r; cases hy
      | cons m ns ih =>
        intro its r y hy
        cases r with
        | cons r1 r2 =>
          rcases List.mem_cons.mp hy with rfl | hy
          · obtain ⟨t1, rfl⟩ := r1
            exact PyProof.Rows.eqGives_str m k t1 t
          · exact ih _ r2 y hy
    exact this ns its r
  refine call_meets PySem.F.slot_list_remove ⟨_, e, rfl⟩ PySem.F.entry_list_remove (PySem.F.args_list_remove_2 _ _)
    (MeetsSeq.list_remove l its.toArray n (.str k t) (eqs k) (fun y hy => gives y (by simpa using hy)) j hjl ?_ ?_ (by rw [List.size_toArray]; omega)) ⟨e, ?_⟩
  · obtain ⟨tj, hjt⟩ := strs_get r hj
    obtain ⟨h1, h2⟩ := List.getElem?_eq_some_iff.mp hjt
    have e1 : its.toArray[j] = .str k tj := by simpa using h2
    rw [e1]
    exact beq_self_eq_true k
  · intro m hm hmj
    have hmn : m < ns.length := by omega
    obtain ⟨tm, hmt⟩ := strs_get r (List.getElem?_eq_getElem hmn)
    obtain ⟨h1, h2⟩ := List.getElem?_eq_some_iff.mp hmt
    have e1 : its.toArray[m] = .str ns[m] tm := by simpa using h2
    rw [e1]
    refine beq_eq_false_iff_ne.mpr fun e2 => hno m hmj ?_
    rw [List.getElem?_eq_getElem hmn, e2]
  · have rr := r.eraseIdx j
    rw [erase_mapS] at rr
    have lenE : (ns.eraseIdx j).length ≤ ns.length := List.length_eraseIdx_le ..
    refine ⟨.non, _, I.lset (its' := its.eraseIdx j) (t' := s.toks) hH e ?_ rr (by rw [List.length_map]; omega), rfl, q⟩
    show its.toArray.eraseIdxIfInBounds j = (its.eraseIdx j).toArray
    rw [List.eraseIdxIfInBounds_toArray]
/-- texts in a list -/
def txts : List D → Option (List (List Nat))
  | [] => some []
  | .str b :: r => (txts r).map (b :: ·)
  | _ => none
theorem strs_rp {H : Hp} : ∀ {l : List D} {bs : List (List Nat)} {xs : List V}, txts l = some bs → RpAll K H l xs → xs = (bs.map S).map V.str ∧ l = bs.map D.str
  | [], bs, xs, h, r => by
    unfold txts at h
    unfold RpAll at r
    cases h
    exact ⟨r, rfl⟩
  | d :: l, bs, xs, h, r => by
    unfold RpAll at r
    obtain ⟨v, t, rfl, h1, h2⟩ := r
    cases d with
    | str b =>
      unfold txts at h
      cases e : txts l with
      | none => rw [e] at h; cases h
      | some cs =>
        rw [e] at h
        cases h
        obtain rfl := rp_str h1
        obtain ⟨e1, e2⟩ := strs_rp e h2
        rw [e1, e2]
        exact ⟨rfl, rfl⟩
    | _ => cases h
theorem strs_map (bs : List (List Nat)) : txts (bs.map D.str) = some bs := by
  induction bs with
  | nil => rfl
  | cons b bs ih =>
    show (txts (bs.map D.str)).map (b :: ·) = some (b :: bs)
    rw [ih]
    rfl
theorem imm_strs (bs : List (List Nat)) : immAll (bs.map D.str) = true := by
  rw [immAll_iff]
  intro d hd
  obtain ⟨b, _, rfl⟩ := List.mem_map.mp hd
  unfold imm
  rfl
def gRem (i : Nat) (f : Dv → Res D) : DS := fun d ε => ∃ bs : List (List Nat), ε[i]? = some (some (.ow (.list (bs.map D.str)))) ∧ (f (view ε)).on (fun x => ∃ b, x = .str b ∧ b ∈ bs ∧ d.nx (ε.set i (some (.ow (.list ((bs.erase b).map D.str)))))) (fun c => d.ex c ε)
theorem erase_idx {α : Type} [BEq α] [LawfulBEq α] : ∀ (l : List α) (a : α), a ∈ l → l[l.idxOf a]? = some a ∧ (∀ m, m < l.idxOf a → l[m]? ≠ some a) ∧ l.eraseIdx (l.idxOf a) = l.erase a
  | [], a, h => by cases h
  | b :: l, a, h => by
    rcases Classical.em (b = a) with e | e
    · subst e
      have e1 : (b :: l).idxOf b = 0 := by simp
      rw [e1]
      exact ⟨rfl, fun m hm => absurd hm (Nat.not_lt_zero _), by simp⟩
    · have e1 : (b :: l).idxOf a = l.idxOf a + 1 := by
        rw [List.idxOf_cons]
        have : (b == a) = false := beq_eq_false_iff_ne.mpr e
        rw [this]
        rfl
      have hm : a ∈ l := by
        rcases List.mem_cons.mp h with z | z
        · exact (e z.symm).elim
        · exact z
      obtain ⟨h1, h2, h3⟩ := erase_idx l a hm
      rw [e1]
      refine ⟨h1, fun m hm' => ?_, ?_⟩
      · cases m with
        | zero => intro z; cases z; exact e rfl
        | succ m => exact h2 m (Nat.lt_of_succ_lt_succ hm')
      · show b :: l.eraseIdx (l.idxOf a) = (b :: l).erase a
        rw [h3, List.erase_cons_tail (by simpa using e)]
theorem s_rem {i : Nat} (ho : PE X o (tVar i)) (he : QE X cl W a te f) (hs : starEach [a] X.env = (false, eval a X.env) :: starEach [] X.env := by rfl)
    (hbase : attributeBase o "remove" X.env (eval o X.env) = eval o X.env := by rfl) (hfew : ((backTo cpos (starEach [a] X.env)).all (fun x => !x.1) && (backToKw cpos (keywordEach [] X.env)).all (fun x => x.1.isSome)
      && decide (([a] : List Expr).length + ([] : List Keyword).length + (if ([] : List Keyword).isEmpty then 0 else 1) < 30)) = true := by rfl) (hline : (apos.endLine == cpos.line) = true := by rfl) (hsw : swapsWith (.Call (.Attribute o "remove" apos) [a] [] cpos) none pos.line X.env = pure false := by rfl) :
    QS X cl W (.Expr (.Call (.Attribute o "remove" apos) [a] [] cpos) pos) (tDrop (tBM X.K "list" rRemS (tVar i) (tCons te tNil))) (gRem i f) := by
  refine ⟨ps_expr (pe_bm PySem.F.plainAttrs_list PySem.F.slot_list_remove PySem.F.type_list_remove mt_removeS ho (pa_cons he.pe pa_nil hs) (hbase := hbase) (hfew := hfew) (hline := hline) (hs := hs)) hsw, fun H0 d D' ε σ H en q hh => ?_⟩
  obtain ⟨bs, hl, hh⟩ := hh
  obtain ⟨p, xs, h1, h2, h3⟩ := q.own_at hl
  refine ⟨.ref p, h1, .inl ⟨rfl, xs, Or.inl (Or.inl h2)⟩, ?_⟩
  show te σ H _
  refine he.sim.runS en q hh fun x v H1 _ s1 r1 hk => ?_
  obtain ⟨b, rfl, hb, nx⟩ := hk
  obtain rfl := rp_str r1
  obtain ⟨ex, _⟩ := strs_rp (strs_map bs) h3
  have hp : H1 p = some (.lst ((bs.map S).map V.str)) := by rw [← ex]; exact s1 _ _ h2
  obtain ⟨i1, i2, i3⟩ := erase_idx bs b hb
  refine ⟨p, bs.map S, S b, bs.idxOf b, rfl, rfl, hp, by rw [List.getElem?_map, i1]; rfl, fun m hm z => ?_, ?_⟩
  · rw [List.getElem?_map] at z
    cases e : bs[m]? with
    | none => rw [e] at z; cases z
    | some c =>
      rw [e] at z
      have : c = b := S_inj (Option.some.inj z)
      subst this
      exact i2 m hm e
  · refine en.nx _ _ _ ?_ nx
    refine (q.mono s1).change hl h1 (imm_strs _) ?_
    have ee : ((bs.map S).eraseIdx (bs.idxOf b)) = (bs.erase b).map S := by
      rw [← i3]
      have : ∀ (l : List (List Nat)) (j : Nat), (l.map S).eraseIdx j = (l.eraseIdx j).map S := by
        intro l
        induction l with
        | nil => intro j; rfl
        | cons y l ih =>
          intro j
          cases j with
          | zero => rfl
          | succ j => show S y :: (l.map S).eraseIdx j = S y :: (l.eraseIdx j).map S; rw [ih j]
      exact this bs _
    rw [ee]
    generalize bs.erase b = cs
    induction cs with
    | nil => exact .nil
    | cons y cs ih => exact .cons (rps y) ih
end
/-! ### a def keeps its promise -/
def startE (n : Nat) (ds : List D) : Env := ds.map (fun d => some (.fz d)) ++ List.replicate (n - ds.length) none
def ends (F : Res D) : DE := { nx := fun _ => F = .ok .none, rt := fun d => F = .ok d, ex := fun c _ => F = .exc c }
theorem start_sq {K : Fg} {H : Hp} {N : List Str} {ds : List D} {vs : List V} (r : RpAll K H ds vs) (hl : ds.length ≤ N.length) : SQ K H (startE N.length ds) (L2.start N vs) H := by
  refine ⟨⟨[], ?_, fun a ha => by (cases ha), fun i d e => ?_, fun i d e => ?_, fun i j d e _ h1 _ => ?_⟩, ?_⟩
  · intro a o h
    rw [hide_ne (by simp)]
    exact h
  · unfold startE at e
    unfold L2.start
    by_cases hi : i < ds.length
    · rw [List.getElem?_append_left (by rw [List.length_map]; exact hi), List.getElem?_map] at e
      rw [List.getElem?_append_left (by rw [List.length_map, r.length]; exact hi), List.getElem?_map]
      cases q : ds[i]? with
      | none => rw [q] at e; cases e
      | some d' =>
        rw [q] at e
        cases e
        obtain ⟨v, h1, h2⟩ := r.get' q
        rw [h1]
        refine ⟨v, rfl, Rp.mono (fun a o h => ?_) _ _ h2⟩
        rw [hide_ne (by simp)]
        exact h
    · rw [List.getElem?_append_right (by rw [List.length_map]; omega), List.getElem?_replicate] at e
      split at e <;> cases e
  · unfold startE at e
    by_cases hi : i < ds.length
    · rw [List.getElem?_append_left (by rw [List.length_map]; exact hi), List.getElem?_map] at e
      cases q : ds[i]? with
      | none => rw [q] at e; cases e
      | some d' => rw [q] at e; cases e
    · rw [List.getElem?_append_right (by rw [List.length_map]; omega), List.getElem?_replicate] at e
      split at e <;> cases e
  · unfold startE at h1
    by_cases hi : i < ds.length
    · rw [List.getElem?_append_left (by rw [List.length_map]; exact hi), List.getElem?_map] at h1
      cases q : ds[i]? with
      | none => rw [q] at h1; cases h1
      | some d' => rw [q] at h1; cases h1
    · rw [List.getElem?_append_right (by rw [List.length_map]; omega), List.getElem?_replicate] at h1
      split at h1 <;> cases h1
  · unfold L2.start startE
    rw [List.length_append, List.length_append, List.length_map, List.length_map, List.length_replicate, List.length_replicate, r.length]
section
variable {P : Program} {w : World} {K : Fg} {mg : Str → Option Value} {base : Heap} {cl : Nat → Addr}
theorem okD {x qual : Str} {st : Stmt} {f : Addr} {fd : FuncData} {N ps : List Str} {k : Nat} {Fm : List D → Res D} (F : Fun K x qual st f fd) (Sc : FnScope N ps (defScope st)) (hNp : ps.length ≤ N.length)
    (hb : ∀ (cdv : Value) (A : Around) (outer : List PySem.Env) (s : Shared) (H : Hp) (E : XK), Room k (A.deeper (PyProof.Rows.envOfC qual (defScope st) s.heap.objs.size f cdv)) →
      ∃ ts g, QSs (cxOf (L2.CX P w) P w K mg base N qual (defScope st) f cdv A outer s H E) cl (fun cls d _ H => E cls d H) (defBody st) ts g ∧ ∀ ds, ds.length = ps.length → Fm ds ≠ .stuck → g (ends (Fm ds)) (startE N.length ds)) :
    FnOk P w K mg base (L2.CX P w) (k + 1) f fd ps (spD K cl ps.length Fm) := by
  refine F.okX Sc (fun vs H Q E h => spD_len h) (fun cdv A outer s H vs Q E hr h => ?_)
  obtain ⟨ts, g, q, hg⟩ := hb cdv A outer s H E hr
  obtain ⟨ds, r, hl, hh⟩ := h
  refine ⟨ts, q.ps, ?_⟩
  have ne : Fm ds ≠ .stuck := fun z => by rw [z] at hh; exact hh
  refine q.sim H (ends (Fm ds)) _ _ _ H ⟨fun ε σ H' sq e => ?_, fun d v H' sm rp fr e => ?_, fun c ε σ H' sq e => ?_, fun _ _ _ _ z => z.elim, fun _ _ _ _ z => z.elim⟩ (start_sq r (by rw [hl]; exact hNp)) (hg ds hl ne)
  · have e : Fm ds = .ok .none := e
    rw [e] at hh
    exact hh .non H' sq.1.same rpn (fresh_no rfl)
  · have e : Fm ds = .ok d := e
    rw [e] at hh
    exact hh v H' sm rp fr
  · have e : Fm ds = .exc c := e
    rw [e] at hh
    exact hh H' sq.1.same
/-- a def that nothing leaves but by its end -/
theorem okD0 {x qual : Str} {st : Stmt} {f : Addr} {fd : FuncData} {N ps : List Str} {k : Nat} {Fm : List D → Res D} (F : Fun K x qual st f fd) (Sc : FnScope N ps (defScope st)) (hNp : ps.length ≤ N.length) (hno : ∀ ds c, Fm ds ≠ .exc c)
    (hb : ∀ (cdv : Value) (A : Around) (outer : List PySem.Env) (s : Shared) (H : Hp) (E : XK), Room k (A.deeper (PyProof.Rows.envOfC qual (defScope st) s.heap.objs.size f cdv)) →
      ∃ ts g, QSs (cxOf CX0 P w K mg base N qual (defScope st) f cdv A outer s H E).nox cl W0 (defBody st) ts g ∧ ∀ ds, ds.length = ps.length → Fm ds ≠ .stuck → g (ends (Fm ds)) (startE N.length ds)) :
    FnOk P w K mg base CX0 (k + 1) f fd ps (spD K cl ps.length Fm) := by
  refine F.ok Sc (fun vs H Q E h => spD_len h) (fun cdv A outer s H vs Q E hr h => ?_)
  obtain ⟨ts, g, q, hg⟩ := hb cdv A outer s H E hr
  obtain ⟨ds, r, hl, hh⟩ := h
  refine ⟨ts, q.ps, ?_⟩
  have ne : Fm ds ≠ .stuck := fun z => by rw [z] at hh; exact hh
  refine q.sim H (ends (Fm ds)) _ _ _ H ⟨fun ε σ H' sq e => ?_, fun d v H' sm rp fr e => ?_, fun c ε σ H' sq e => (hno ds c e).elim, fun _ _ _ _ z => z.elim, fun _ _ _ _ z => z.elim⟩ (start_sq r (by rw [hl]; exact hNp)) (hg ds hl ne)
  · have e : Fm ds = .ok .none := e
    rw [e] at hh
    exact hh .non H' sq.1.same rpn (fresh_no rfl)
  · have e : Fm ds = .ok d := e
    rw [e] at hh
    exact hh v H' sm rp fr
end
end DL
namespace DL
open PySem L2
theorem hu64 {A : Around} {k : Nat} (hr : Room k A) : A.units + 64 < cLine := by have := hr.un; omega
/-- a def that keeps the promise F, by its name -/
def Cal (P : Program) (w : World) (K : Fg) (mg : Str → Option Value) (base : Heap) (cl : Nat → Addr) (k : Nat) (x : Str) (n : Nat) (F : List D → Res D) : Prop := ∃ f fd ps, FnOk P w K mg base (L2.CX P w) k f fd ps (spD K cl n F) ∧ mg x = some (.ref f) ∧ PySem.W.keepIn K (.ref f) = true ∧ Binds K fd ps []
/-- an own exception class -/
structure ExcT (K : Fg) (mg : Str → Option Value) (x : Str) (C : Addr) : Prop where
  g : mg x = some (.ref C)
  x : PySem.W.excIn K C [.type "ValueError", .type "Exception", .type "BaseException", .type "object"] "ValueError.__new__" = true
  k : PySem.W.keepIn K (.ref C) = true
  b : PySem.W.subIn K (.ref C) (.type "BaseException") = some true
  t : PySem.W.typeIn K (.ref C) = some (.type "type")
section
variable {X : Cx} {cl : Nat → Addr} {W : WX}
theorem q_fn {k n : Nat} {x : Str} {F : List D → Res D} {e : Expr} {es : List Expr} {p pos : Pos} {tr : TA} {gs : Dv → Res (List D)} (C : Cal X.prog X.w X.K X.mg X.base cl k x n F) (hr : Room k X.A) (tk : Takes X W) (ha : QA X cl W (e :: es) tr gs) (hg : Gl X x := by rfl)
    (hdb : (x == ("__debug__" : Str)) = false := by decide) (he : starEach (e :: es) X.env = (false, eval e X.env) :: starEach es X.env := by rfl) (hpl : (backTo pos (starEach es X.env)).any (·.1) = false := by rfl) :
    QF X cl W (.Call (.Name x p) (e :: es) [] pos) (tCallS (spD X.K cl n F) (WE W) tr) (dCall n F gs) := by
  obtain ⟨f, fd, ps, G, hm, hk, hb⟩ := C
  exact q_call G hr hg hm hk hb (fun σ => passAt tk σ) ha hdb he hpl
theorem s_raiseX {n j : Nat} {x m : Str} {p p2 pos pos2 : Pos} (T : ExcT X.K X.mg x (cl n)) (hc : X.calm = true) (tk : Takes X W) (hg : Gl X x := by rfl) (hdb : (x == ("__debug__" : Str)) = false := by decide) :
    QS X cl W (.Raise (some (.Call (.Name x p) [.Constant (.str m) j p2] [] pos)) none pos2) (fun _ σ H => (fun (_ : L2.St) (H : Hp) (Q : XK) => Q (.ref (cl n)) none H) σ H fun cls d H' => W cls d σ H') (fun d ε => d.ex n ε) :=
  s_raise (t0 := fun _ H Q => Q (.ref (cl n)) none H) (ps_raise hc tk (pmk_own PySem.F.excBase_ValueError T.x T.g T.k (raises_own T.b T.t) hg hdb)) (fun _ _ _ h => h)
variable {elt tg iter : Expr} {ifs : List Expr} {scope : Scope} {own : List (Str × Nat)} {pos : Pos} {wi : TI} {fi : Dv → Res (List D)} {k : D → Dv → Option Dv} {ft : Dv → Res Bool} {fe : Dv → Res D}
theorem s_setLc {T : TE} {G : Dv → Res D} {i : Nat} {st : Stmt} (h : PS X st (tAsg T (gName i)) ∧ SimF X.K cl W T G) : QS X cl W st (tAsg T (gName i)) (gSet i G) := ⟨h.1, set_sim h.2⟩
theorem s_ownLc {T : TE} {G : Dv → Res D} {i : Nat} {st : Stmt} (h : PS X st (tAsg T (gName i)) ∧ SimF X.K cl W T G) : QS X cl W st (tAsg T (gName i)) (gOwn i G) := ⟨h.1, own_sim h.2⟩
end
end DL
namespace DL
open PySem L2
/-! ### the operations, by the kinds of their data -/
section
@[simp] theorem oAdd_ii (i j : Int) : oAdd (.int i) (.int j) = .ok (.int (i + j)) := rfl
@[simp] theorem oAdd_ss (x y : List Nat) : oAdd (.str x) (.str y) = Res.need (x.length + y.length ≤ big) (.ok (.str (x ++ y))) := rfl
@[simp] theorem oAdd_tt (x y : List D) : oAdd (.tuple x) (.tuple y) = Res.need (x.length + y.length ≤ big) (.ok (.tuple (x ++ y))) := rfl
@[simp] theorem oAdd_ll (x y : List D) : oAdd (.list x) (.list y) = Res.need (x.length + y.length ≤ big) (.ok (.list (x ++ y))) := rfl
@[simp] theorem oSub_ii (i j : Int) : oSub (.int i) (.int j) = .ok (.int (i - j)) := rfl
@[simp] theorem oMul_ii (i j : Int) : oMul (.int i) (.int j) = Res.need (smallI i ∨ smallI j) (.ok (.int (i * j))) := rfl
@[simp] theorem oMul_li (l : List D) (k : Int) : oMul (.list l) (.int k) = Res.need (0 ≤ k ∧ k.natAbs ≤ 1000 ∧ l.length ≤ 1000) (.ok (.list (List.replicate k.toNat l).flatten)) := rfl
@[simp] theorem oMod_ii (i j : Int) : oMod (.int i) (.int j) = Res.need (0 < j) (.ok (.int (i % j))) := rfl
@[simp] theorem oDiv_ii (i j : Int) : oDiv (.int i) (.int j) = Res.need (0 < j ∧ j.natAbs ≤ big) (.ok (.int (i / j))) := rfl
@[simp] theorem oCmp_ii (p : Int → Int → Bool) (q : List Nat → List Nat → Bool) (i j : Int) : oCmp p q (.int i) (.int j) = .ok (.bool (p i j)) := rfl
@[simp] theorem oCmp_ss (p : Int → Int → Bool) (q : List Nat → List Nat → Bool) (i j : List Nat) : oCmp p q (.str i) (.str j) = .ok (.bool (q i j)) := rfl
@[simp] theorem oEqB_ii (i j : Int) : oEqB (.int i) (.int j) = .ok (decide (i = j)) := rfl
@[simp] theorem oEqB_ss (i j : List Nat) : oEqB (.str i) (.str j) = .ok (decide (i = j)) := rfl
@[simp] theorem oEqB_bb (i j : Bool) : oEqB (.bool i) (.bool j) = .ok (decide (i = j)) := rfl
@[simp] theorem oEqB_nn  : oEqB (.none) (.none) = .ok (true) := rfl
@[simp] theorem oEqB_ni (i : Int) : oEqB (.none) (.int i) = .ok (false) := rfl
@[simp] theorem oEqB_in (i : Int) : oEqB (.int i) (.none) = .ok (false) := rfl
@[simp] theorem oEqB_ns (i : List Nat) : oEqB (.none) (.str i) = .ok (false) := rfl
@[simp] theorem oEqB_sn (i : List Nat) : oEqB (.str i) (.none) = .ok (false) := rfl
@[simp] theorem oEqB_is (i : Int) (j : List Nat) : oEqB (.int i) (.str j) = .ok (false) := rfl
@[simp] theorem oEqB_si (i : Int) (j : List Nat) : oEqB (.str j) (.int i) = .ok (false) := rfl
@[simp] theorem oEqB_tt (x y : List D) : oEqB (.tuple x) (.tuple y) = Res.need (shp 10 (.tuple x) = true ∧ shp 10 (.tuple y) = true) (.ok (deq (.tuple x) (.tuple y))) := rfl
@[simp] theorem oEqB_ll (x y : List D) : oEqB (.list x) (.list y) = Res.need (shp 10 (.list x) = true ∧ shp 10 (.list y) = true) (.ok (deq (.list x) (.list y))) := rfl
@[simp] theorem oEqB_nt (y : List D) : oEqB (.none) (.tuple y) = Res.need (shp 10 (.none) = true ∧ shp 10 (.tuple y) = true) (.ok (deq (.none) (.tuple y))) := rfl
@[simp] theorem oEqB_tn (x : List D) : oEqB (.tuple x) (.none) = Res.need (shp 10 (.tuple x) = true ∧ shp 10 (.none) = true) (.ok (deq (.tuple x) (.none))) := rfl
@[simp] theorem oEqB_st (x : List Nat) (y : List D) : oEqB (.str x) (.tuple y) = Res.need (shp 10 (.str x) = true ∧ shp 10 (.tuple y) = true) (.ok (deq (.str x) (.tuple y))) := rfl
@[simp] theorem oEqB_ts (x : List Nat) (y : List D) : oEqB (.tuple y) (.str x) = Res.need (shp 10 (.tuple y) = true ∧ shp 10 (.str x) = true) (.ok (deq (.tuple y) (.str x))) := rfl
@[simp] theorem oInB_ss (c : Nat) (z : List Nat) : oInB (.str [c]) (.str z) = .ok (decide (c ∈ z)) := rfl
@[simp] theorem oIx_ti (l : List D) (i : Int) : oIx (.tuple l) (.int i) = ofO (atI l i) := rfl
@[simp] theorem oIx_li (l : List D) (i : Int) : oIx (.list l) (.int i) = ofO (atI l i) := rfl
@[simp] theorem oIx_si (l : List Nat) (i : Int) : oIx (.str l) (.int i) = Res.need (l.length ≤ big) (ofO ((atI l i).map fun c => .str [c])) := rfl
@[simp] theorem oIx_ci (l : List Int) (i : Int) : oIx (.scr l) (.int i) = ofO ((atI l i).map fun c => .int c) := rfl
@[simp] theorem isBox_n  : isBox (.none) = false := rfl
@[simp] theorem noBox_n  : noBox (.ok (.none)) = .ok (.none) := rfl
@[simp] theorem ofO_n  : ofO (some (.none)) = .ok (.none) := rfl
@[simp] theorem isBox_b (b : Bool) : isBox (.bool b) = false := rfl
@[simp] theorem noBox_b (b : Bool) : noBox (.ok (.bool b)) = .ok (.bool b) := rfl
@[simp] theorem ofO_b (b : Bool) : ofO (some (.bool b)) = .ok (.bool b) := rfl
@[simp] theorem isBox_i (i : Int) : isBox (.int i) = false := rfl
@[simp] theorem noBox_i (i : Int) : noBox (.ok (.int i)) = .ok (.int i) := rfl
@[simp] theorem ofO_i (i : Int) : ofO (some (.int i)) = .ok (.int i) := rfl
@[simp] theorem isBox_s (l : List Nat) : isBox (.str l) = false := rfl
@[simp] theorem noBox_s (l : List Nat) : noBox (.ok (.str l)) = .ok (.str l) := rfl
@[simp] theorem ofO_s (l : List Nat) : ofO (some (.str l)) = .ok (.str l) := rfl
@[simp] theorem isBox_t (l : List D) : isBox (.tuple l) = false := rfl
@[simp] theorem noBox_t (l : List D) : noBox (.ok (.tuple l)) = .ok (.tuple l) := rfl
@[simp] theorem ofO_t (l : List D) : ofO (some (.tuple l)) = .ok (.tuple l) := rfl
@[simp] theorem isBox_l (l : List D) : isBox (.list l) = true := rfl
@[simp] theorem imm_n  : imm (.none) = true := rfl
@[simp] theorem calm_n  : calm (.none) = true := rfl
@[simp] theorem imm_b (b : Bool) : imm (.bool b) = true := rfl
@[simp] theorem calm_b (b : Bool) : calm (.bool b) = true := rfl
@[simp] theorem imm_i (i : Int) : imm (.int i) = true := rfl
@[simp] theorem calm_i (i : Int) : calm (.int i) = true := rfl
@[simp] theorem imm_s (l : List Nat) : imm (.str l) = true := rfl
@[simp] theorem calm_s (l : List Nat) : calm (.str l) = true := rfl
@[simp] theorem imm_t (l : List D) : imm (.tuple l) = immAll l := rfl
@[simp] theorem calm_t (l : List D) : calm (.tuple l) = immAll l := rfl
@[simp] theorem calm_l (l : List D) : calm (.list l) = immAll l := rfl
@[simp] theorem immAll_nil  : immAll [] = true := rfl
@[simp] theorem immAll_cons (d : D) (l : List D) : immAll (d :: l) = (imm d && immAll l) := rfl
@[simp] theorem truth_n  : truth .none = .ok false := rfl
@[simp] theorem truth_b (b : Bool) : truth (.bool b) = .ok b := rfl
@[simp] theorem truth_i (i : Int) : truth (.int i) = .ok (i != 0) := rfl
@[simp] theorem truth_s (l : List Nat) : truth (.str l) = Res.need (l.length ≤ big) (.ok (!l.isEmpty)) := rfl
@[simp] theorem truth_l (l : List D) : truth (.list l) = .ok (!l.isEmpty) := rfl
@[simp] theorem truth_t (l : List D) : truth (.tuple l) = .ok (!l.isEmpty) := rfl
@[simp] theorem asB_b (b : Bool) : asB (.bool b) = .ok b := rfl
@[simp] theorem asS_s (l : List Nat) : asS (.str l) = .ok l := rfl
@[simp] theorem asI_i (i : Int) : asI (.int i) = .ok i := rfl
@[simp] theorem cLen_s (l : List Nat) : cLen [.str l] = Res.need (l.length ≤ big) (.ok (.int l.length)) := rfl
@[simp] theorem cLen_l (l : List D) : cLen [.list l] = .ok (.int l.length) := rfl
@[simp] theorem cLen_t (l : List D) : cLen [.tuple l] = .ok (.int l.length) := rfl
@[simp] theorem cLen_c (l : List Int) : cLen [.scr l] = .ok (.int l.length) := rfl
@[simp] theorem cMin_ii (i j : Int) : cMin [.int i, .int j] = .ok (.int (if j < i then j else i)) := rfl
@[simp] theorem cMax_ii (i j : Int) : cMax [.int i, .int j] = .ok (.int (if j > i then j else i)) := rfl
@[simp] theorem cInt_i (i : Int) : cInt [.int i] = .ok (.int i) := rfl
@[simp] theorem cInt_b (b : Bool) : cInt [.bool b] = .ok (.int (if b then 1 else 0)) := rfl
@[simp] theorem mIndex_s (l : List Nat) (c : Nat) : mIndex l (.str [c]) = Res.need (c ∈ l) (.ok (.int (l.idxOf c : Nat))) := rfl
@[simp] theorem oNeg_i (i : Int) : oNeg (.int i) = .ok (.int (-i)) := rfl
@[simp] theorem oSl_s (l : List Nat) (lo hi : Option Int) : oSl (.str l) lo hi = Res.need (l.length ≤ big) (.ok (.str (cutL l lo hi))) := rfl
@[simp] theorem oSl_t (l : List D) (lo hi : Option Int) : oSl (.tuple l) lo hi = .ok (.tuple (cutL l lo hi)) := rfl
@[simp] theorem oSl_l (l : List D) (lo hi : Option Int) : oSl (.list l) lo hi = .ok (.list (cutL l lo hi)) := rfl
@[simp] theorem items_s (l : List Nat) : items (.str l) = .ok (l.map fun c => .str [c]) := rfl
@[simp] theorem items_t (l : List D) : items (.tuple l) = .ok l := rfl
@[simp] theorem items_l (l : List D) : items (.list l) = .ok l := rfl
@[simp] theorem itemsF_s (l : List Nat) : itemsF (.str l) = .ok (l.map fun c => .str [c]) := rfl
@[simp] theorem itemsF_t (l : List D) : itemsF (.tuple l) = Res.need (immAll l = true) (.ok l) := rfl
@[simp] theorem itemsF_l (l : List D) : itemsF (.list l) = Res.need (immAll l = true) (.ok l) := rfl
@[simp] theorem Sl_fz (d : D) : (Sl.fz d).d = d := rfl
@[simp] theorem Sl_ow (d : D) : (Sl.ow d).d = d := rfl
@[simp] theorem cTuple_l (l : List D) : cTuple [.list l] = .ok (.tuple l) := rfl
@[simp] theorem cTuple_t (l : List D) : cTuple [.tuple l] = .ok (.tuple l) := rfl
@[simp] theorem iR1_i (j : Int) : iR1 [.int j] = Res.need (j.natAbs ≤ big) (.ok (rng 0 j.toNat)) := rfl
@[simp] theorem iR2_ii (i j : Int) : iR2 [.int i, .int j] = Res.need (i.natAbs ≤ big ∧ j.natAbs ≤ big) (.ok (rng i (j - i).toNat)) := rfl
@[simp] theorem oRevS_s (g : List Nat → List Nat) (l : List Nat) : oRevS g (.str l) = Res.need (l.length ≤ big) (.ok (.str (g l))) := rfl
end
/-! ### loops, by what holds between the turns -/
theorem need_ok {α : Type} {c : Prop} [Decidable c] (h : c) (r : Res α) : Res.need c r = r := if_pos h
/-! ### one statement after the other -/
section
variable {g k : DS} {d : DE} {ε : Env} {f h : Dv → Res D} {fb : Dv → Res Bool} {i j : Nat} {x y : D}
theorem st_seq (h : g { d with nx := k d } ε) : gSeq g k d ε := h
theorem st_set (x : D) (e : f (view ε) = .ok x) (hi : i < ε.length) (hc : calm x = true) (hn : d.nx (ε.set i (some (.fz x)))) : gSet i f d ε := by
  unfold gSet
  rw [e]
  exact ⟨hi, hc, hn⟩
theorem st_own (x : D) (e : f (view ε) = .ok x) (hi : i < ε.length) (hb : isBox x = true) (hs : notScr x = true) (hc : calm x = true) (hn : d.nx (ε.set i (some (.ow x)))) : gOwn i f d ε := by
  unfold gOwn
  rw [e]
  exact ⟨hi, hb, hs, hc, hn⟩
theorem st_par (m n : Bool) (x y : D) (e : f (view ε) = .ok x) (e2 : h (view ε) = .ok y) (hi : i < ε.length) (hj : j < ε.length) (o1 : okM m x) (o2 : okM n y) (hn : d.nx ((ε.set i (mk m x)).set j (mk n y))) : gPar i j m n f h d ε := by
  unfold gPar
  rw [e]
  show (h (view ε)).on _ _
  rw [e2]
  exact ⟨⟨hi, hj, o1, o2⟩, hn⟩
theorem st_ift (e : fb (view ε) = .ok true) (hn : g d ε) : gIf fb g k d ε := by
  unfold gIf
  rw [e]
  exact hn
theorem st_iff (e : fb (view ε) = .ok false) (hn : k d ε) : gIf fb g k d ε := by
  unfold gIf
  rw [e]
  exact hn
/-- an if that has no else, its test not true -/
theorem st_no (e : fb (view ε) = .ok false) (hn : d.nx ε) : gIf fb g gNext d ε := st_iff e hn
theorem st_ret (x : D) (e : f (view ε) = .ok x) (hn : d.rt x) : gRet f d ε := by
  unfold gRet
  rw [e]
  exact hn
theorem st_drop (x : D) (e : f (view ε) = .ok x) (hn : d.nx ε) : gDrop f d ε := by
  unfold gDrop
  rw [e]
  exact hn
theorem st_app (l : List D) (x : D) (hl : ε[i]? = some (some (.ow (.list l)))) (im : immAll l = true) (e : f (view ε) = .ok x) (ix : imm x = true) (hz : l.length < big) (hn : d.nx (ε.set i (some (.ow (.list (l ++ [x])))))) : gApp i f d ε := by
  refine ⟨l, hl, im, ?_⟩
  rw [e]
  exact ⟨ix, hz, hn⟩
theorem st_ext (l m : List D) (hl : ε[i]? = some (some (.ow (.list l)))) (im : immAll l = true) (e : f (view ε) = .ok (.list m)) (ix : immAll m = true) (hz : l.length + m.length ≤ big) (hn : d.nx (ε.set i (some (.ow (.list (l ++ m)))))) : gExt i f d ε := by
  refine ⟨l, hl, im, ?_⟩
  rw [e]
  exact ⟨m, rfl, ix, hz, hn⟩
theorem st_rem (bs : List (List Nat)) (b : List Nat) (hl : ε[i]? = some (some (.ow (.list (bs.map D.str))))) (e : f (view ε) = .ok (.str b)) (hb : b ∈ bs) (hn : d.nx (ε.set i (some (.ow (.list ((bs.erase b).map D.str)))))) : gRem i f d ε := by
  refine ⟨bs, hl, ?_⟩
  rw [e]
  exact ⟨b, rfl, hb, hn⟩
variable {q : DS}
theorem sq_set (x : D) (e : f (view ε) = .ok x) (hi : i < ε.length) (hc : calm x = true) (hn : q d (ε.set i (some (.fz x)))) : gSeq (gSet i f) q d ε := st_set (d := { d with nx := q d }) x e hi hc hn
theorem sq_own (x : D) (e : f (view ε) = .ok x) (hi : i < ε.length) (hb : isBox x = true) (hs : notScr x = true) (hc : calm x = true) (hn : q d (ε.set i (some (.ow x)))) : gSeq (gOwn i f) q d ε := st_own (d := { d with nx := q d }) x e hi hb hs hc hn
theorem sq_par (m n : Bool) (x y : D) (e : f (view ε) = .ok x) (e2 : h (view ε) = .ok y) (hi : i < ε.length) (hj : j < ε.length) (o1 : okM m x) (o2 : okM n y) (hn : q d ((ε.set i (mk m x)).set j (mk n y))) : gSeq (gPar i j m n f h) q d ε := st_par (d := { d with nx := q d }) m n x y e e2 hi hj o1 o2 hn
theorem sq_ift (e : fb (view ε) = .ok true) (hn : g { d with nx := q d } ε) : gSeq (gIf fb g k) q d ε := st_ift (d := { d with nx := q d }) e hn
theorem sq_iff (e : fb (view ε) = .ok false) (hn : k { d with nx := q d } ε) : gSeq (gIf fb g k) q d ε := st_iff (d := { d with nx := q d }) e hn
theorem sq_no (e : fb (view ε) = .ok false) (hn : q d ε) : gSeq (gIf fb g gNext) q d ε := st_iff (d := { d with nx := q d }) e hn
theorem sq_drop (x : D) (e : f (view ε) = .ok x) (hn : q d ε) : gSeq (gDrop f) q d ε := st_drop (d := { d with nx := q d }) x e hn
theorem sq_app (l : List D) (x : D) (hl : ε[i]? = some (some (.ow (.list l)))) (im : immAll l = true) (e : f (view ε) = .ok x) (ix : imm x = true) (hz : l.length < big) (hn : q d (ε.set i (some (.ow (.list (l ++ [x])))))) : gSeq (gApp i f) q d ε := st_app (d := { d with nx := q d }) l x hl im e ix hz hn
theorem sq_ext (l m : List D) (hl : ε[i]? = some (some (.ow (.list l)))) (im : immAll l = true) (e : f (view ε) = .ok (.list m)) (ix : immAll m = true) (hz : l.length + m.length ≤ big) (hn : q d (ε.set i (some (.ow (.list (l ++ m)))))) : gSeq (gExt i f) q d ε := st_ext (d := { d with nx := q d }) l m hl im e ix hz hn
theorem sq_rem (bs : List (List Nat)) (b : List Nat) (hl : ε[i]? = some (some (.ow (.list (bs.map D.str))))) (e : f (view ε) = .ok (.str b)) (hb : b ∈ bs) (hn : q d (ε.set i (some (.ow (.list ((bs.erase b).map D.str)))))) : gSeq (gRem i f) q d ε := st_rem (d := { d with nx := q d }) bs b hl e hb hn
end
theorem for_str {i : Nat} {k : D → Env → Option Env} {g : DS} {d : DE} {ε : Env} {w : List Nat} (h : ε[i]? = some (some (.fz (.str w)))) (I : Nat → Env → Prop) (h0 : I 0 ε)
    (hs : ∀ (j : Nat) (c : Nat) (ε' : Env), w[j]? = some c → I j ε' → ∃ ε2, k (.str [c]) ε' = some ε2 ∧ g { d with nx := I (j + 1), ct := I (j + 1), bk := d.nx } ε2) (hd : ∀ ε', I w.length ε' → d.nx ε') : gForN i k g d ε := by
  refine ⟨.str w, h, I, h0, fun j x ε' hx hi => ?_, fun ε' hi => hd ε' ?_⟩
  · rw [List.getElem?_map] at hx
    cases e : w[j]? with
    | none => rw [e] at hx; cases hx
    | some c =>
      rw [e] at hx
      cases hx
      exact ⟨rfl, hs j c ε' e hi⟩
  · rw [List.length_map] at hi
    exact hi
/-- .. the same at every turn -/
theorem for_strA {i : Nat} {k : D → Env → Option Env} {g : DS} {d : DE} {ε : Env} {w : List Nat} (h : ε[i]? = some (some (.fz (.str w)))) (I : Env → Prop) (h0 : I ε)
    (hs : ∀ (c : Nat) (ε' : Env), c ∈ w → I ε' → ∃ ε2, k (.str [c]) ε' = some ε2 ∧ g { d with nx := I, ct := I, bk := d.nx } ε2) (hd : ∀ ε', I ε' → d.nx ε') : gForN i k g d ε :=
  for_str h (fun _ => I) h0 (fun j c ε' hc hi => hs c ε' (List.mem_of_getElem? hc) hi) hd
/-- a for over what comes to the data xs -/
theorem for_any {f : Dv → Res (List D)} {k : D → Env → Option Env} {g : DS} {d : DE} {ε : Env} {xs : List D} (h : f (view ε) = .ok xs) (I : Nat → Env → Prop) (h0 : I 0 ε)
    (hs : ∀ (j : Nat) (x : D) (ε' : Env), xs[j]? = some x → I j ε' → imm x = true ∧ ∃ ε2, k x ε' = some ε2 ∧ g { d with nx := I (j + 1), ct := I (j + 1), bk := d.nx } ε2) (hd : ∀ ε', I xs.length ε' → d.nx ε') : gFor f k g d ε := by
  unfold gFor
  rw [h]
  exact ⟨I, h0, hs, hd⟩
theorem for_rng {f : Dv → Res (List D)} {k : D → Env → Option Env} {g : DS} {d : DE} {ε : Env} {lo : Int} {n : Nat} (h : f (view ε) = .ok (rng lo n)) (I : Nat → Env → Prop) (h0 : I 0 ε)
    (hs : ∀ (j : Nat) (ε' : Env), j < n → I j ε' → ∃ ε2, k (.int (lo + (j : Int))) ε' = some ε2 ∧ g { d with nx := I (j + 1), ct := I (j + 1), bk := d.nx } ε2) (hd : ∀ ε', I n ε' → d.nx ε') : gFor f k g d ε := by
  refine for_any h I h0 (fun j x ε' hx hi => ?_) (fun ε' hi => hd ε' (by rw [rng_len] at hi; exact hi))
  have hj : j < n := by
    rcases Nat.lt_or_ge j n with q | q
    · exact q
    · rw [List.getElem?_eq_none (by rw [rng_len]; exact q)] at hx; cases hx
  rw [rng_get hj] at hx
  cases hx
  exact ⟨rfl, hs j ε' hj hi⟩
/-! .. a for with more behind it -/
theorem sq_str {i : Nat} {k : D → Env → Option Env} {g q : DS} {d : DE} {ε : Env} {w : List Nat} (h : ε[i]? = some (some (.fz (.str w)))) (I : Nat → Env → Prop) (h0 : I 0 ε)
    (hs : ∀ (j : Nat) (c : Nat) (ε' : Env), w[j]? = some c → I j ε' → ∃ ε2, k (.str [c]) ε' = some ε2 ∧ g { nx := I (j + 1), rt := d.rt, ex := d.ex, bk := q d, ct := I (j + 1) } ε2) (hd : ∀ ε', I w.length ε' → q d ε') : gSeq (gForN i k g) q d ε :=
  for_str (d := { d with nx := q d }) h I h0 hs hd
theorem sq_strA {i : Nat} {k : D → Env → Option Env} {g q : DS} {d : DE} {ε : Env} {w : List Nat} (h : ε[i]? = some (some (.fz (.str w)))) (I : Env → Prop) (h0 : I ε)
    (hs : ∀ (c : Nat) (ε' : Env), c ∈ w → I ε' → ∃ ε2, k (.str [c]) ε' = some ε2 ∧ g { nx := I, rt := d.rt, ex := d.ex, bk := q d, ct := I } ε2) (hd : ∀ ε', I ε' → q d ε') : gSeq (gForN i k g) q d ε :=
  for_strA (d := { d with nx := q d }) h I h0 hs hd
theorem sq_any {f : Dv → Res (List D)} {k : D → Env → Option Env} {g q : DS} {d : DE} {ε : Env} (xs : List D) (h : f (view ε) = .ok xs) (I : Nat → Env → Prop) (h0 : I 0 ε)
    (hs : ∀ (j : Nat) (x : D) (ε' : Env), xs[j]? = some x → I j ε' → imm x = true ∧ ∃ ε2, k x ε' = some ε2 ∧ g { nx := I (j + 1), rt := d.rt, ex := d.ex, bk := q d, ct := I (j + 1) } ε2) (hd : ∀ ε', I xs.length ε' → q d ε') : gSeq (gFor f k g) q d ε :=
  for_any (d := { d with nx := q d }) h I h0 hs hd
theorem sq_rng {f : Dv → Res (List D)} {k : D → Env → Option Env} {g q : DS} {d : DE} {ε : Env} (lo : Int) (n : Nat) (h : f (view ε) = .ok (rng lo n)) (I : Nat → Env → Prop) (h0 : I 0 ε)
    (hs : ∀ (j : Nat) (ε' : Env), j < n → I j ε' → ∃ ε2, k (.int (lo + (j : Int))) ε' = some ε2 ∧ g { nx := I (j + 1), rt := d.rt, ex := d.ex, bk := q d, ct := I (j + 1) } ε2) (hd : ∀ ε', I n ε' → q d ε') : gSeq (gFor f k g) q d ε :=
  for_rng (d := { d with nx := q d }) h I h0 hs hd
/-- a comprehension whose every item gives one datum -/
theorem compM_map {f : D → Res (List D)} {h : D → D} : ∀ {l : List D}, (∀ x ∈ l, f x = .ok [h x]) → compM f l = .ok (l.map h)
  | [], _ => rfl
  | x :: l, hf => by
    show (f x).bind _ = _
    rw [hf x List.mem_cons_self, Res.ok_bind, compM_map fun y hy => hf y (List.mem_cons_of_mem _ hy)]
    rfl
theorem compM_filter {f : D → Res (List D)} {p : D → Bool} {h : D → D} : ∀ {l : List D}, (∀ x ∈ l, f x = .ok (if p x = true then [h x] else [])) → compM f l = .ok ((l.filter p).map h)
  | [], _ => rfl
  | x :: l, hf => by
    show (f x).bind _ = _
    rw [hf x List.mem_cons_self, Res.ok_bind, compM_filter fun y hy => hf y (List.mem_cons_of_mem _ hy), Res.ok_bind]
    by_cases hp : p x = true
    · rw [if_pos hp, List.filter_cons_of_pos hp]; rfl
    · rw [if_neg hp, List.filter_cons_of_neg hp]; rfl
theorem bools_map {α : Type} (l : List α) (p : α → Bool) : bools (l.map fun x => D.bool (p x)) = some (l.map p) := by
  induction l with
  | nil => rfl
  | cons x l ih =>
    show (bools (l.map fun x => D.bool (p x))).map (p x :: ·) = some (p x :: l.map p)
    rw [ih]
    rfl
theorem cAny_map {α : Type} (l : List α) (p : α → Bool) : cAny [.list (l.map fun x => D.bool (p x))] = .ok (.bool (l.any p)) := by
  have e : cAny [.list (l.map fun x => D.bool (p x))] = match bools (l.map fun x => D.bool (p x)) with
    | some bs => .ok (.bool (bs.any id))
    | none => .stuck := rfl
  rw [e, bools_map]
  show Res.ok (D.bool ((l.map p).any id)) = _
  rw [List.any_map]
  rfl
theorem cAll_map {α : Type} (l : List α) (p : α → Bool) : cAll [.list (l.map fun x => D.bool (p x))] = .ok (.bool (l.all p)) := by
  have e : cAll [.list (l.map fun x => D.bool (p x))] = match bools (l.map fun x => D.bool (p x)) with
    | some bs => .ok (.bool (bs.all id))
    | none => .stuck := rfl
  rw [e, bools_map]
  show Res.ok (D.bool ((l.map p).all id)) = _
  rw [List.all_map]
  rfl
/-! ### sorted texts of one sign -/
def signs (l : List Nat) : List D := l.map fun c => .str [c]
def sortN (l : List Nat) : List Nat := l.mergeSort fun a b => decide (a ≤ b)
theorem sortD_signs (l : List Nat) : sortD (signs l) = signs (sortN l) := by
  unfold sortD signs sortN
  symm
  refine List.map_mergeSort (f := fun c : Nat => D.str [c]) (r := fun a b => decide (a ≤ b)) (s := fun a b => PySem.W.dataLe false toPy a b) fun a _ b _ => ?_
  have e : PySem.W.dataLe false toPy (D.str [a]) (D.str [b]) = PySem.W.dataLe false (fun c : Nat => PyData.str (S [c])) a b := rfl
  rw [e, PySem.W.dataLe_str]
  show decide (a ≤ b) = decide ([a] ≤ [b])
  by_cases h : a ≤ b
  · rw [decide_eq_true h, decide_eq_true]
    show ¬ [b] < [a]
    intro z
    rcases List.cons_lt_cons_iff.mp z with z | ⟨_, z⟩
    · exact absurd z (Nat.not_lt.mpr h)
    · exact List.not_lt_nil _ z
  · rw [decide_eq_false h, decide_eq_false]
    show ¬ ¬ [b] < [a]
    intro z
    exact z (List.cons_lt_cons_iff.mpr (.inl (Nat.lt_of_not_le h)))
theorem sortN_perm (l : List Nat) : (sortN l).Perm l := List.mergeSort_perm ..
theorem sortN_eq {l m : List Nat} : sortN l = sortN m ↔ l.Perm m := by
  constructor
  · intro h
    exact (sortN_perm l).symm.trans (h ▸ sortN_perm m)
  · intro h
    have p : (sortN l).Perm (sortN m) := (sortN_perm l).trans (h.trans (sortN_perm m).symm)
    have s1 : (sortN l).Pairwise (fun a b => a ≤ b) := by
      have := List.pairwise_mergeSort (le := fun a b => decide (a ≤ b)) (fun a b c h1 h2 => by simp at *; omega) (fun a b => by simp; omega) l
      simpa [sortN] using this
    have s2 : (sortN m).Pairwise (fun a b => a ≤ b) := by
      have := List.pairwise_mergeSort (le := fun a b => decide (a ≤ b)) (fun a b c h1 h2 => by simp at *; omega) (fun a b => by simp; omega) m
      simpa [sortN] using this
    exact p.eq_of_pairwise (fun a b _ _ h1 h2 => Nat.le_antisymm h1 h2) s1 s2
theorem deq_signs : ∀ (l m : List Nat), deq (.list (signs l)) (.list (signs m)) = decide (l = m) := by
  have key : ∀ (l m : List Nat), PyData.eqvAll (toPyAll (signs l)) (toPyAll (signs m)) = decide (l = m) := by
    intro l
    induction l with
    | nil => intro m; cases m <;> simp [signs, toPyAll, PyData.eqvAll]
    | cons a l ih =>
      intro m
      cases m with
      | nil => simp [signs, toPyAll, PyData.eqvAll]
      | cons b m =>
        have := ih m
        show (PyData.eqv (toPy (.str [a])) (toPy (.str [b])) && PyData.eqvAll (toPyAll (signs l)) (toPyAll (signs m))) = _
        rw [this]
        have e : PyData.eqv (toPy (.str [a])) (toPy (.str [b])) = decide (a = b) := by
          unfold toPy PyData.eqv
          by_cases h : a = b
          · subst h; simp
          · have : S [a] ≠ S [b] := fun z => h (by have := S_inj z; simpa using this)
            rw [decide_eq_false h]
            simpa using this
        rw [e]
        by_cases h : a = b <;> by_cases h2 : l = m <;> simp [h, h2]
  intro l m
  unfold deq toPy PyData.eqv
  exact key l m
theorem shp_signs {n : Nat} {l : List Nat} (h : ∀ c ∈ l, c < 0x110000) : shpAll n (signs l) = true := by
  induction l with
  | nil => unfold signs shpAll; rfl
  | cons a l ih =>
    show shpAll n (.str [a] :: signs l) = true
    unfold shpAll
    rw [ih fun c hc => h c (List.mem_cons_of_mem _ hc)]
    unfold shp
    simp [h a List.mem_cons_self]
theorem alk_signs (l : List Nat) : alk (signs l) = true := by
  unfold alk signs
  rw [List.all_eq_true]
  intro a ha
  rw [List.all_eq_true]
  intro b hb
  obtain ⟨c, _, rfl⟩ := List.mem_map.mp ha
  obtain ⟨d, _, rfl⟩ := List.mem_map.mp hb
  rfl
theorem srt_signs (l : List Nat) : srt (signs l) = true := by
  unfold srt signs
  rw [Bool.or_eq_true]
  right
  rw [List.all_eq_true]
  intro a ha
  obtain ⟨c, _, rfl⟩ := List.mem_map.mp ha
  rfl
theorem cSorted_str {l : List Nat} (h : ∀ c ∈ l, c < 0x110000) (hl : l.length ≤ big) : cSorted [.str l] = .ok (.list (signs (sortN l))) := by
  have e0 : cSorted [.str l] = Res.need (shortS (.str l) = true ∧ shpAll 9 (l.map fun c => D.str [c]) = true ∧ alk (l.map fun c => D.str [c]) = true ∧ srt (l.map fun c => D.str [c]) = true ∧ (l.map fun c => D.str [c]).length ≤ big) (.ok (.list (sortD (l.map fun c => D.str [c])))) := by
    unfold cSorted
    rfl
  rw [e0]
  have e : (l.map fun c => D.str [c]) = signs l := rfl
  rw [e, need_ok ⟨decide_eq_true hl, shp_signs h, alk_signs l, srt_signs l, by unfold signs; rw [List.length_map]; exact hl⟩, sortD_signs]
theorem oNe_signs {l m : List Nat} (h1 : ∀ c ∈ l, c < 0x110000) (h2 : ∀ c ∈ m, c < 0x110000) : oNe (.list (signs l)) (.list (signs m)) = .ok (.bool (!decide (l = m))) := by
  unfold oNe
  have e : oEqB (.list (signs l)) (.list (signs m)) = Res.need (shp 10 (.list (signs l)) = true ∧ shp 10 (.list (signs m)) = true) (.ok (deq (.list (signs l)) (.list (signs m)))) := rfl
  rw [e, need_ok ⟨by unfold shp; exact shp_signs h1, by unfold shp; exact shp_signs h2⟩, deq_signs]
  rfl
theorem sortN_mem {l : List Nat} {c : Nat} (h : c ∈ sortN l) : c ∈ l := (sortN_perm l).mem_iff.mp h
end DL
namespace Lw
open PySem L2 DL
/-! ### draws -/
def mixZ (c p m : Int) : Int := (c * 48271 % p) * (c * 48271 % p + 7) % p % m
def F_law_mix : List D → Res D
  | [.int c, .int p, .int m] => Res.need (0 < p ∧ p ≤ 10000 ∧ 0 < m) (.ok (.int (mixZ c p m)))
  | _ => .stuck
theorem need_sh {α : Type} {c : Prop} [Decidable c] {r : Res α} (h : Res.need c r ≠ .stuck) : c := by
  unfold Res.need at h
  split at h
  · assumption
  · exact absurd rfl h
theorem sh_law_mix {ds : List D} (h : F_law_mix ds ≠ .stuck) : ∃ c p m, ds = [.int c, .int p, .int m] ∧ 0 < p ∧ p ≤ 10000 ∧ 0 < m := by
  unfold F_law_mix at h
  split at h
  · exact ⟨_, _, _, rfl, need_sh h⟩
  · exact absurd rfl h
theorem mix_lo (c p : Int) {m : Int} (h : 0 < m) : 0 ≤ mixZ c p m := Int.emod_nonneg _ (by omega)
theorem mix_hi (c p : Int) {m : Int} (h : 0 < m) : mixZ c p m < m := Int.emod_lt_of_pos _ h
theorem mix_ok {c p m : Int} (h1 : 0 < p) (h2 : p ≤ 10000) (h3 : 0 < m) : F_law_mix [.int c, .int p, .int m] = .ok (.int (mixZ c p m)) := need_ok ⟨h1, h2, h3⟩ _
def F_law_cell : List D → Res D
  | [.scr ns, .int k] => Res.need (0 ≤ k) (.ok (.int (ns.getD k.toNat 0)))
  | _ => .stuck
theorem sh_law_cell {ds : List D} (h : F_law_cell ds ≠ .stuck) : ∃ ns k, ds = [.scr ns, .int k] ∧ 0 ≤ k := by
  unfold F_law_cell at h
  split at h
  · exact ⟨_, _, rfl, need_sh h⟩
  · exact absurd rfl h
theorem atI_nat' {α : Type} {l : List α} {k : Int} (h0 : 0 ≤ k) (h1 : k < l.length) : atI l k = l[k.toNat]? := by
  unfold atI ixN
  rw [if_pos h0, if_pos h1]
  rfl
theorem atI_get {α : Type} {l : List α} {k : Int} (h0 : 0 ≤ k) (h1 : k < l.length) (d : α) : atI l k = some (l.getD k.toNat d) := by
  rw [atI_nat' h0 h1]
  have : k.toNat < l.length := by omega
  simp [List.getD, this]
/-! ### wheels -/
def pool0 : List Nat := [104, 99, 102, 98, 100, 97, 101, 103]
/-- what is left of the pool, and what is gathered, behind n letters -/
def drawn (c : Int) : Nat → List Nat × List Nat
  | 0 => (pool0, [])
  | n + 1 => let s := drawn c n
    let x := s.1.getD (mixZ (c + 19 * (n : Int)) 9967 s.1.length).toNat 0
    (s.1.erase x, s.2 ++ [x])
def wheelN (c most : Int) : Nat := (1 + mixZ c 9973 most).toNat
def wheelL (c most : Int) : List Nat := (drawn c (wheelN c most)).2
structure Wh (w : List Nat) : Prop where
  nd : w.Nodup
  pos : 0 < w.length
  le : w.length ≤ 8
  lt : ∀ c ∈ w, 97 ≤ c ∧ c ≤ 104
theorem drawn_ok (c : Int) : ∀ n, n ≤ 8 → (drawn c n).1.length = 8 - n ∧ (drawn c n).2.length = n ∧ ((drawn c n).1 ++ (drawn c n).2).Nodup ∧ ∀ x ∈ (drawn c n).1 ++ (drawn c n).2, x ∈ pool0
  | 0, _ => ⟨rfl, rfl, (by decide : (pool0 ++ []).Nodup), fun x h => by simpa [drawn] using h⟩
  | n + 1, h => by
    obtain ⟨h1, h2, h3, h4⟩ := drawn_ok c n (by omega)
    have hp : 0 < ((drawn c n).1.length : Int) := by omega
    have l0 := mix_lo (c + 19 * (n : Int)) 9967 hp
    have l1 := mix_hi (c + 19 * (n : Int)) 9967 hp
    have hm : (drawn c n).1.getD (mixZ (c + 19 * (n : Int)) 9967 (drawn c n).1.length).toNat 0 ∈ (drawn c n).1 := by
      have hl : (mixZ (c + 19 * (n : Int)) 9967 (drawn c n).1.length).toNat < (drawn c n).1.length := by omega
      rw [List.getD_eq_getElem?_getD, List.getElem?_eq_getElem hl]
      exact List.getElem_mem hl
    have key : drawn c (n + 1) = ((drawn c n).1.erase ((drawn c n).1.getD (mixZ (c + 19 * (n : Int)) 9967 (drawn c n).1.length).toNat 0), (drawn c n).2 ++ [(drawn c n).1.getD (mixZ (c + 19 * (n : Int)) 9967 (drawn c n).1.length).toNat 0]) := rfl
    rw [key]
    generalize (drawn c n).1.getD (mixZ (c + 19 * (n : Int)) 9967 (drawn c n).1.length).toNat 0 = x at hm
    have pm : ((drawn c n).1.erase x ++ ((drawn c n).2 ++ [x])).Perm ((drawn c n).1 ++ (drawn c n).2) := by
      have p1 : (x :: (drawn c n).1.erase x).Perm (drawn c n).1 := (List.perm_cons_erase hm).symm
      have p2 : ((drawn c n).1.erase x ++ ((drawn c n).2 ++ [x])).Perm (x :: ((drawn c n).1.erase x ++ (drawn c n).2)) := by
        rw [← List.append_assoc]
        exact List.perm_append_singleton x _
      exact p2.trans (p1.append_right _)
    refine ⟨by rw [List.length_erase_of_mem hm]; omega, by rw [List.length_append]; simp; omega, pm.nodup_iff.mpr h3, fun y hy => h4 y (pm.mem_iff.mp hy)⟩
theorem wheelN_le {c most : Int} (h : 0 < most ∧ most ≤ 8) : 1 ≤ wheelN c most ∧ (wheelN c most : Int) ≤ most ∧ wheelN c most ≤ 8 := by
  have l0 := mix_lo c 9973 h.1
  have l1 := mix_hi c 9973 h.1
  unfold wheelN
  omega
theorem wheel_len {c most : Int} (h : 0 < most ∧ most ≤ 8) : ((wheelL c most).length : Int) ≤ most := by
  have := wheelN_le (c := c) h
  unfold wheelL
  rw [(drawn_ok c _ this.2.2).2.1]
  exact this.2.1
theorem wheel_ok {c most : Int} (h : 0 < most ∧ most ≤ 8) : Wh (wheelL c most) := by
  have hn := wheelN_le (c := c) h
  obtain ⟨h1, h2, h3, h4⟩ := drawn_ok c (wheelN c most) hn.2.2
  refine ⟨(List.nodup_append.mp h3).2.1, by unfold wheelL; omega, by unfold wheelL; omega, fun x hx => ?_⟩
  have := h4 x (List.mem_append_right _ hx)
  unfold pool0 at this
  simp at this
  omega
theorem erase_one (x : Nat) : ∀ l : List Nat, (l.map fun c => [c]).erase [x] = (l.erase x).map fun c => [c]
  | [] => rfl
  | y :: l => by
    by_cases h : y = x
    · subst h
      simp
    · have h' : ([y] == [x]) = false := by simpa using h
      have h2 : (y == x) = false := by simpa using h
      rw [List.map_cons, List.erase_cons, h', List.erase_cons, h2]
      simp [erase_one x l]
def F_law_wheel : List D → Res D
  | [.int c, .int m] => Res.need (0 < m ∧ m ≤ 8) (.ok (.str (wheelL c m)))
  | _ => .stuck
theorem sh_law_wheel {ds : List D} (h : F_law_wheel ds ≠ .stuck) : ∃ c m, ds = [.int c, .int m] ∧ 0 < m ∧ m ≤ 8 := by
  unfold F_law_wheel at h
  split at h
  · exact ⟨_, _, rfl, need_sh h⟩
  · exact absurd rfl h
/-! ### places and ways -/
def F_place : List D → Res D
  | [.str w, .str [c]] => if c ∈ w then .ok (.int (w.idxOf c)) else .exc 0
  | _ => .stuck
theorem sh_place {ds : List D} (h : F_place ds ≠ .stuck) : ∃ w c, ds = [.str w, .str [c]] := by
  unfold F_place at h
  split at h
  · exact ⟨_, _, rfl⟩
  · exact absurd rfl h
def fwd (w : List Nat) (a c : Nat) : Int := ((w.idxOf c : Int) - (w.idxOf a : Int)) % (w.length : Int)
def wayZ (b : Bool) (w : List Nat) (a c : Nat) : Int := if b = true then (if (w.length : Int) - fwd w a c < fwd w a c then (w.length : Int) - fwd w a c else fwd w a c) else fwd w a c
def farZ (b f : Bool) (w : List Nat) (a c : Nat) : Int := if a = c ∧ f = true then (w.length : Int) else wayZ b w a c
def F_way : List D → Res D
  | [.tuple [.bool b, .bool _], .str w, .str [a], .str [c]] => Res.need (w.length ≤ big) (if c ∈ w ∧ a ∈ w then .ok (.int (wayZ b w a c)) else .exc 0)
  | _ => .stuck
theorem sh_way {ds : List D} (h : F_way ds ≠ .stuck) : ∃ b f w a c, ds = [.tuple [.bool b, .bool f], .str w, .str [a], .str [c]] ∧ w.length ≤ big := by
  unfold F_way at h
  split at h
  · exact ⟨_, _, _, _, _, rfl, need_sh h⟩
  · exact absurd rfl h
def F_far : List D → Res D
  | [.tuple [.bool b, .bool f], .str w, .str [a], .str [c]] => Res.need (w.length ≤ big) (if c ∈ w ∧ a ∈ w then .ok (.int (farZ b f w a c)) else .exc 0)
  | _ => .stuck
theorem sh_far {ds : List D} (h : F_far ds ≠ .stuck) : ∃ b f w a c, ds = [.tuple [.bool b, .bool f], .str w, .str [a], .str [c]] ∧ w.length ≤ big := by
  unfold F_far at h
  split at h
  · exact ⟨_, _, _, _, _, rfl, need_sh h⟩
  · exact absurd rfl h
def turnL (w : List Nat) (c : Nat) : List Nat := w.drop (w.idxOf c) ++ w.take (w.idxOf c)
def F_turned : List D → Res D
  | [.str w, .str [c]] => Res.need (w.length ≤ 1000) (if c ∈ w then .ok (.str (turnL w c)) else .exc 0)
  | _ => .stuck
theorem sh_turned {ds : List D} (h : F_turned ds ≠ .stuck) : ∃ w c, ds = [.str w, .str [c]] ∧ w.length ≤ 1000 := by
  unfold F_turned at h
  split at h
  · exact ⟨_, _, rfl, need_sh h⟩
  · exact absurd rfl h
def mirL (w : List Nat) : List Nat := w.take 1 ++ (w.drop 1).reverse
def F_mirrored : List D → Res D
  | [.str w] => Res.need (w.length ≤ 1000) (.ok (.str (mirL w)))
  | _ => .stuck
theorem sh_mirrored {ds : List D} (h : F_mirrored ds ≠ .stuck) : ∃ w, ds = [.str w] ∧ w.length ≤ 1000 := by
  unfold F_mirrored at h
  split at h
  · exact ⟨_, rfl, need_sh h⟩
  · exact absurd rfl h
/-! slices -/
theorem cut_from {α : Type} (l : List α) (k : Nat) (h : k ≤ l.length) : cutL l (some (k : Int)) none = l.drop k := by
  unfold cutL
  rw [HT.sIx_nat, HT.sIx_none, Nat.min_eq_left h, ← List.length_drop, List.take_length]
theorem cut_to {α : Type} (l : List α) (k : Nat) : cutL l none (some (k : Int)) = l.take k := by
  unfold cutL
  rw [HT.sIx_nat, HT.sIx_none, List.drop_zero, Nat.sub_zero]
  rcases Nat.le_total k l.length with h | h
  · rw [Nat.min_eq_left h]
  · rw [Nat.min_eq_right h, List.take_length, List.take_of_length_le h]
theorem idx_lt {w : List Nat} {c : Nat} (h : c ∈ w) : w.idxOf c < w.length := List.idxOf_lt_length_iff.mpr h
theorem idx_get {w : List Nat} {c : Nat} (h : c ∈ w) : w[w.idxOf c]? = some c := by
  rw [List.getElem?_eq_getElem (idx_lt h)]
  simp
theorem idx_inj {w : List Nat} {a c : Nat} (ha : a ∈ w) (hc : c ∈ w) (e : w.idxOf a = w.idxOf c) : a = c := by
  have h1 := idx_get ha
  rw [e, idx_get hc] at h1
  exact (Option.some.inj h1).symm
theorem fwd_eq {w : List Nat} {a c : Nat} (ha : a ∈ w) (hc : c ∈ w) : fwd w a c = if w.idxOf a ≤ w.idxOf c then (w.idxOf c : Int) - w.idxOf a else (w.idxOf c : Int) - w.idxOf a + w.length := by
  have h1 := idx_lt ha
  have h2 := idx_lt hc
  unfold fwd
  split
  · exact Int.emod_eq_of_lt (by omega) (by omega)
  · rw [← Int.add_emod_right]
    exact Int.emod_eq_of_lt (by omega) (by omega)
theorem far_ok {b f : Bool} {w : List Nat} {a c : Nat} (hw : w.length ≤ big) (ha : a ∈ w) (hc : c ∈ w) : F_far [.tuple [.bool b, .bool f], .str w, .str [a], .str [c]] = .ok (.int (farZ b f w a c)) := by
  show Res.need _ (if c ∈ w ∧ a ∈ w then _ else _) = _
  rw [need_ok hw, if_pos ⟨hc, ha⟩]
/-! ### law 3: the ways of a wheel -/
def F_law_are_ways : List D → Res D
  | [.str w, .bool _] => Res.need (w.Nodup ∧ 0 < w.length ∧ w.length ≤ 8) (.ok (.bool true))
  | _ => .stuck
theorem sh_law_are_ways {ds : List D} (h : F_law_are_ways ds ≠ .stuck) : ∃ w f, ds = [.str w, .bool f] ∧ w.Nodup ∧ 0 < w.length ∧ w.length ≤ 8 := by
  unfold F_law_are_ways at h
  split at h
  · exact ⟨_, _, rfl, need_sh h⟩
  · exact absurd rfl h
theorem ways_math {f : Bool} {w : List Nat} {a c : Nat} (ha : a ∈ w) (hc : c ∈ w) :
    (a ≠ c → farZ false f w a c + farZ false f w c a = w.length ∧ farZ true f w a c = (if farZ false f w c a < farZ false f w a c then farZ false f w c a else farZ false f w a c) ∧ 0 < farZ true f w a c ∧ farZ true f w a c ≤ (w.length : Int) / 2) ∧
    (a = c → farZ false f w a c = farZ false f w c a ∧ farZ true f w a c = farZ false f w a c ∧ farZ false f w a c = (w.length : Int) * (if f = true then 1 else 0)) := by
  have h1 := idx_lt ha
  have h2 := idx_lt hc
  constructor
  · intro hn
    have hne : w.idxOf a ≠ w.idxOf c := fun z => hn (idx_inj ha hc z)
    have hn' : c ≠ a := fun z => hn z.symm
    simp only [farZ, wayZ, hn, hn', false_and, if_false, fwd_eq ha hc, fwd_eq hc ha]
    simp only [if_true, Bool.false_eq_true, if_false]
    by_cases h : w.idxOf a ≤ w.idxOf c
    · have h' : ¬ w.idxOf c ≤ w.idxOf a := by omega
      simp only [h, h', if_true, if_false]
      refine ⟨by omega, ?_, ?_, ?_⟩ <;> (split <;> (try split) <;> omega)
    · have h' : w.idxOf c ≤ w.idxOf a := by omega
      simp only [h, h', if_true, if_false]
      refine ⟨by omega, ?_, ?_, ?_⟩ <;> (split <;> (try split) <;> omega)
  · intro he
    subst he
    have e0 : fwd w a a = 0 := by rw [fwd_eq ha ha]; simp
    cases f
    · simp [farZ, wayZ, e0]
      omega
    · simp [farZ]
theorem tri_math {b f : Bool} {w : List Nat} {a c t : Nat} (ha : a ∈ w) (hc : c ∈ w) (ht : t ∈ w) (hn : a ≠ c) : ¬ (farZ b f w a t + farZ b f w t c < farZ b f w a c) := by
  have h1 := idx_lt ha
  have h2 := idx_lt hc
  have h3 := idx_lt ht
  have n1 : w.idxOf a ≠ w.idxOf c := fun z => hn (idx_inj ha hc z)
  have e1 := fwd_eq ha hc
  have e2 := fwd_eq ha ht
  have e3 := fwd_eq ht hc
  have q1 : w.idxOf a = w.idxOf t → a = t := idx_inj ha ht
  have q2 : w.idxOf t = w.idxOf c → t = c := idx_inj ht hc
  have p1 : a = t → w.idxOf a = w.idxOf t := fun z => by rw [z]
  have p2 : t = c → w.idxOf t = w.idxOf c := fun z => by rw [z]
  simp only [farZ, wayZ, hn, false_and, if_false]
  generalize fwd w a c = x at *
  generalize fwd w a t = y at *
  generalize fwd w t c = z at *
  split at e1 <;> split at e2 <;> split at e3 <;> cases b <;> cases f <;> simp only [Bool.false_eq_true, if_false, if_true, and_true, and_false] <;> (repeat' split) <;> omega
/-! ### are_alike -/
def alikeB (b f : Bool) (u v : List Nat) : Bool := decide (u.Perm v) && u.all fun x => u.all fun y => decide (farZ b f u x y = farZ b f v x y)
def F_are_alike : List D → Res D
  | [.tuple [.bool b, .bool f], .str u, .str v] => Res.need (u.length ≤ 1000 ∧ v.length ≤ 1000 ∧ (u.all (· < 0x110000) = true) ∧ (v.all (· < 0x110000) = true)) (.ok (.bool (alikeB b f u v)))
  | _ => .stuck
theorem sh_are_alike {ds : List D} (h : F_are_alike ds ≠ .stuck) : ∃ b f u v, ds = [.tuple [.bool b, .bool f], .str u, .str v] ∧ u.length ≤ 1000 ∧ v.length ≤ 1000 ∧ (u.all (· < 0x110000) = true) ∧ (v.all (· < 0x110000) = true) := by
  unfold F_are_alike at h
  split at h
  · exact ⟨_, _, _, _, rfl, need_sh h⟩
  · exact absurd rfl h
end Lw
namespace Lw
open PySem L2 DL
/-! ### turning and mirroring -/
theorem idx_of_get : ∀ {l : List Nat} {k x : Nat}, l.Nodup → l[k]? = some x → l.idxOf x = k
  | [], _, _, _, h => by simp at h
  | y :: l, 0, x, _, h => by
    simp at h
    subst h
    simp
  | y :: l, k + 1, x, hn, h => by
    have h' : l[k]? = some x := by simpa using h
    have hm : x ∈ l := List.mem_of_getElem? h'
    have hy : y ≠ x := fun e => (List.nodup_cons.mp hn).1 (e ▸ hm)
    have hb : (y == x) = false := by simpa using hy
    rw [List.idxOf_cons, hb, idx_of_get (List.nodup_cons.mp hn).2 h']
    rfl
theorem turn_perm (w : List Nat) (c : Nat) : (turnL w c).Perm w := by
  unfold turnL
  have := List.perm_append_comm (l₁ := w.drop (w.idxOf c)) (l₂ := w.take (w.idxOf c))
  rwa [List.take_append_drop] at this
theorem turn_len (w : List Nat) (c : Nat) : (turnL w c).length = w.length := (turn_perm w c).length_eq
theorem turn_idx {w : List Nat} (hn : w.Nodup) {a x : Nat} (ha : a ∈ w) (hx : x ∈ w) : (turnL w a).idxOf x = if w.idxOf a ≤ w.idxOf x then w.idxOf x - w.idxOf a else w.idxOf x + (w.length - w.idxOf a) := by
  have h1 := idx_lt ha
  have h2 := idx_lt hx
  refine idx_of_get ((turn_perm w a).nodup_iff.mpr hn) ?_
  unfold turnL
  split
  · rw [List.getElem?_append_left (by rw [List.length_drop]; omega), List.getElem?_drop]
    have : w.idxOf a + (w.idxOf x - w.idxOf a) = w.idxOf x := by omega
    rw [this]
    exact idx_get hx
  · rw [List.getElem?_append_right (by rw [List.length_drop]; omega), List.length_drop]
    have : w.idxOf x + (w.length - w.idxOf a) - (w.length - w.idxOf a) = w.idxOf x := by omega
    rw [this, List.getElem?_take_of_lt (by omega)]
    exact idx_get hx
theorem turn_turn {w : List Nat} (hn : w.Nodup) {a x : Nat} (ha : a ∈ w) (hx : x ∈ w) : turnL (turnL w a) x = turnL w x := by
  have h1 := idx_lt ha
  have h2 := idx_lt hx
  have e := turn_idx hn ha hx
  have e0 : turnL (turnL w a) x = (turnL w a).drop ((turnL w a).idxOf x) ++ (turnL w a).take ((turnL w a).idxOf x) := rfl
  rw [e0, e]
  have el : (w.drop (w.idxOf a)).length = w.length - w.idxOf a := List.length_drop
  have er : turnL w a = w.drop (w.idxOf a) ++ w.take (w.idxOf a) := rfl
  rw [er]
  unfold turnL
  generalize w.idxOf a = i at *
  generalize w.idxOf x = k at *
  split
  · rename_i h
    rw [List.drop_append_of_le_length (by omega), List.drop_drop, List.take_append_of_le_length (by omega)]
    have q : i + (k - i) = k := by omega
    rw [q, List.append_assoc]
    congr 1
    conv => rhs; rw [← q, List.take_add]
  · rename_i h
    have q : k + (w.length - i) = (w.drop i).length + k := by omega
    rw [q, List.drop_length_add_append, List.take_length_add_append, List.take_take, Nat.min_eq_left (by omega), ← List.append_assoc]
    congr 1
    have : w.drop k = (w.take i).drop k ++ (w.drop i) := by
      conv => lhs; rw [← List.take_append_drop i w]
      rw [List.drop_append_of_le_length (by rw [List.length_take]; omega)]
    rw [this]
theorem turn_fwd {w : List Nat} (hn : w.Nodup) {a x y : Nat} (ha : a ∈ w) (hx : x ∈ w) (hy : y ∈ w) : fwd (turnL w a) x y = fwd w x y := by
  have m : ∀ z, z ∈ w → z ∈ turnL w a := fun z hz => (turn_perm w a).mem_iff.mpr hz
  have h1 := idx_lt ha
  have h2 := idx_lt hx
  have h3 := idx_lt hy
  have e1 := turn_idx hn ha hx
  have e2 := turn_idx hn ha hy
  rw [fwd_eq (m _ hx) (m _ hy), fwd_eq hx hy, e1, e2, turn_len]
  generalize w.idxOf a = i at *
  generalize w.idxOf x = j at *
  generalize w.idxOf y = k at *
  repeat' split
  all_goals omega
theorem turn_far {w : List Nat} (hn : w.Nodup) {b f : Bool} {a x y : Nat} (ha : a ∈ w) (hx : x ∈ w) (hy : y ∈ w) : farZ b f (turnL w a) x y = farZ b f w x y := by
  unfold farZ wayZ
  rw [turn_fwd hn ha hx hy, turn_len]
theorem turn_alike {w : List Nat} (hn : w.Nodup) {b f : Bool} {a : Nat} (ha : a ∈ w) : alikeB b f w (turnL w a) = true := by
  unfold alikeB
  rw [decide_eq_true (turn_perm w a).symm, Bool.true_and]
  refine List.all_eq_true.mpr fun x hx => List.all_eq_true.mpr fun y hy => decide_eq_true ?_
  exact (turn_far hn ha hx hy).symm
theorem turn_place {w : List Nat} (hn : w.Nodup) {a : Nat} (ha : a ∈ w) : (turnL w a).idxOf a = 0 := by
  rw [turn_idx hn ha ha]
  simp
theorem turn_first (w : List Nat) (c : Nat) : turnL (c :: w) c = c :: w := by
  unfold turnL
  simp
/-! mirrored -/
theorem mir_cons (c : Nat) (w : List Nat) : mirL (c :: w) = c :: w.reverse := by simp [mirL]
theorem mir_mir (w : List Nat) : mirL (mirL w) = w := by
  cases w with
  | nil => rfl
  | cons c w => rw [mir_cons, mir_cons, List.reverse_reverse]
theorem mir_perm (w : List Nat) : (mirL w).Perm w := by
  cases w with
  | nil => exact List.Perm.refl _
  | cons c w => rw [mir_cons]; exact (List.reverse_perm w).cons c
theorem mir_len (w : List Nat) : (mirL w).length = w.length := (mir_perm w).length_eq
theorem mir_idx {w : List Nat} (hn : w.Nodup) {x : Nat} (hx : x ∈ w) : (mirL w).idxOf x = if w.idxOf x = 0 then 0 else w.length - w.idxOf x := by
  have h2 := idx_lt hx
  have hg := idx_get hx
  refine idx_of_get ((mir_perm w).nodup_iff.mpr hn) ?_
  cases w with
  | nil => cases hx
  | cons c w =>
    rw [mir_cons]
    generalize (c :: w).idxOf x = k at *
    match k with
    | 0 => simpa using hg
    | k + 1 =>
      have hg' : w[k]? = some x := by simpa using hg
      have hl : k < w.length := by simpa using h2
      have e : (c :: w).length - (k + 1) = (w.length - 1 - k) + 1 := by simp; omega
      rw [if_neg (by omega), e, List.getElem?_cons_succ, List.getElem?_reverse (by omega)]
      have q : w.length - 1 - (w.length - 1 - k) = k := by omega
      rw [q]
      exact hg'
theorem mir_fwd {w : List Nat} (hn : w.Nodup) {x y : Nat} (hx : x ∈ w) (hy : y ∈ w) : fwd (mirL w) x y = fwd w y x := by
  have m : ∀ z, z ∈ w → z ∈ mirL w := fun z hz => (mir_perm w).mem_iff.mpr hz
  have h2 := idx_lt hx
  have h3 := idx_lt hy
  rw [fwd_eq (m _ hx) (m _ hy), fwd_eq hy hx, mir_idx hn hx, mir_idx hn hy, mir_len]
  generalize w.idxOf x = j at *
  generalize w.idxOf y = k at *
  repeat' split
  all_goals omega
theorem mir_far {w : List Nat} (hn : w.Nodup) {b f : Bool} {x y : Nat} (hx : x ∈ w) (hy : y ∈ w) : farZ b f (mirL w) x y = farZ b f w y x := by
  unfold farZ wayZ
  rw [mir_fwd hn hx hy, mir_len]
  simp only [eq_comm (a := x) (b := y)]
theorem mir_alike {w : List Nat} (hn : w.Nodup) (b f : Bool) : alikeB b f w (mirL w) = (b || decide (w.length < 3)) := by
  unfold alikeB
  rw [decide_eq_true (mir_perm w).symm, Bool.true_and]
  cases hq : (b || decide (w.length < 3)) with
  | true =>
    refine List.all_eq_true.mpr fun x hx => List.all_eq_true.mpr fun y hy => decide_eq_true ?_
    rw [mir_far hn hx hy]
    by_cases e : x = y
    · rw [e]
    · have h1 := idx_lt hx
      have h2 := idx_lt hy
      have ne : w.idxOf x ≠ w.idxOf y := fun z => e (idx_inj hx hy z)
      have e' : ¬ y = x := fun z => e z.symm
      simp only [farZ, wayZ, e, e', false_and, if_false, fwd_eq hx hy, fwd_eq hy hx]
      generalize w.idxOf x = j at *
      generalize w.idxOf y = k at *
      cases b with
      | true =>
        simp only [if_true]
        repeat' split
        all_goals omega
      | false =>
        have : w.length < 3 := by simpa using hq
        simp only [Bool.false_eq_true, if_false]
        repeat' split
        all_goals omega
  | false =>
    have hb : b = false := by cases b <;> simp_all
    subst hb
    have h3 : ¬ w.length < 3 := by simpa using hq
    match w, hn, h3 with
    | p :: q :: r, hn, h3 =>
      rw [← Bool.not_eq_true]
      intro z
      have z1 := of_decide_eq_true (List.all_eq_true.mp (List.all_eq_true.mp z p (by simp)) q (by simp))
      have hp : p ∈ p :: q :: r := by simp
      have hq' : q ∈ p :: q :: r := by simp
      have hpq : p ≠ q := fun e => (List.nodup_cons.mp hn).1 (by simp [e])
      have hqp : ¬ q = p := fun e => hpq e.symm
      have i1 : (p :: q :: r).idxOf p = 0 := by simp
      have i2 : (p :: q :: r).idxOf q = 1 := idx_of_get hn (by simp)
      rw [mir_far hn hp hq'] at z1
      simp only [farZ, wayZ, hpq, hqp, false_and, if_false, Bool.false_eq_true, fwd_eq hp hq', fwd_eq hq' hp, i1, i2] at z1
      simp at z1 h3
      omega
    | [_], _, h3 => simp at h3
    | [], _, h3 => simp at h3
theorem wheel_at {w : List Nat} {k : Int} (h0 : 0 ≤ k) (h1 : k < w.length) : ∃ c, c ∈ w ∧ atI w k = some c := by
  have hl : k.toNat < w.length := by omega
  refine ⟨w[k.toNat], List.getElem_mem hl, ?_⟩
  rw [atI_nat' h0 h1, List.getElem?_eq_getElem hl]
theorem eqB_signs {l m : List Nat} (h1 : ∀ c ∈ l, c < 0x110000) (h2 : ∀ c ∈ m, c < 0x110000) : oEqB (.list (signs l)) (.list (signs m)) = .ok (decide (l = m)) := by
  have e : oEqB (.list (signs l)) (.list (signs m)) = Res.need (shp 10 (.list (signs l)) = true ∧ shp 10 (.list (signs m)) = true) (.ok (deq (.list (signs l)) (.list (signs m)))) := rfl
  rw [e, need_ok ⟨by unfold shp; exact shp_signs h1, by unfold shp; exact shp_signs h2⟩, deq_signs]
theorem turn_ok {w : List Nat} {c : Nat} (hw : w.length ≤ 1000) (hc : c ∈ w) : F_turned [.str w, .str [c]] = .ok (.str (turnL w c)) := by
  show Res.need _ (if c ∈ w then _ else _) = _
  rw [need_ok hw, if_pos hc]
theorem mir_ok {w : List Nat} (hw : w.length ≤ 1000) : F_mirrored [.str w] = .ok (.str (mirL w)) := need_ok hw _
theorem alike_ok {b f : Bool} {u v : List Nat} (h1 : u.length ≤ 1000) (h2 : v.length ≤ 1000) (h3 : ∀ c ∈ u, c < 0x110000) (h4 : ∀ c ∈ v, c < 0x110000) : F_are_alike [.tuple [.bool b, .bool f], .str u, .str v] = .ok (.bool (alikeB b f u v)) :=
  need_ok ⟨h1, h2, List.all_eq_true.mpr fun c hc => decide_eq_true (h3 c hc), List.all_eq_true.mpr fun c hc => decide_eq_true (h4 c hc)⟩ _
theorem place_ok {w : List Nat} {c : Nat} (hc : c ∈ w) : F_place [.str w, .str [c]] = .ok (.int (w.idxOf c : Nat)) := by
  show (if c ∈ w then _ else _) = _
  rw [if_pos hc]
theorem first_of {w : List Nat} (h : 0 < w.length) : ∃ z, z ∈ w ∧ atI w 0 = some z ∧ turnL w z = w ∧ atI (mirL w) 0 = some z := by
  match w, h with
  | z :: r, _ => exact ⟨z, by simp, by rw [atI_nat' (by decide) (by simp)]; rfl, turn_first r z, by rw [mir_cons, atI_nat' (by decide) (by simp)]; rfl⟩
def F_law : List D → Res D
  | [.scr _] => .ok (.bool true)
  | _ => .stuck
theorem sh_law {ds : List D} (h : F_law ds ≠ .stuck) : ∃ ns, ds = [.scr ns] := by
  unfold F_law at h
  split at h
  · exact ⟨_, rfl⟩
  · exact absurd rfl h
theorem ne_law : ∀ ds c, F_law ds ≠ .exc c := by
  intro ds c h
  unfold F_law at h
  split at h <;> cases h
end Lw
namespace Lw
open PySem L2 DL
def top (i : Nat) : Stmt := PySem.Challenge.pw_wheelorders_k03_whole_far.main.body.getD i (.Pass ⟨0, 0, 0, 0⟩)
section
variable {P : Program} {w : World} {K : Fg} {mg : Str → Option Value} {base : Heap} {cl : Nat → Addr}
def g_law_cell : DS :=
  (gSeq (gIf (dB (d2 oLt (dVar 1) (fun δ => ((dCons (dVar 0) dNil) δ).bind cLen))) (gRet (d2 oIx (dVar 0) (dVar 1))) gNext)
    (gRet (dC (.int 0))))
theorem rd_law_cell {ds : List D} (hl : ds.length = 2) (hne : F_law_cell ds ≠ .stuck) : g_law_cell (ends (F_law_cell ds)) (startE 2 ds) := by
  unfold g_law_cell
  obtain ⟨ns, k, rfl, hk⟩ := sh_law_cell hne
  by_cases h : k < (ns.length : Int)
  · have e := atI_get hk h (0 : Int)
    simp [gSeq, gSet, gOwn, gRet, gIf, gNext, gPar, d2, dVar, dC, dB, dT, bAnd, bOr, bNot, dIf, dAndV, dOrV, dNotV, dCons, dNil, dTup, dLst, dCall, dM, dSl, dPt, dNoP, oEq, oNe, oIn, oNi, view, startE, ends, mk, okM, notScr, kName, kTup, kCons, kNil, big, F_law_cell, hk, h, e, Res.need]
  · have e : ns.getD k.toNat 0 = 0 := by
      have : ns.length ≤ k.toNat := by omega
      simp [List.getD, this]
    simp [gSeq, gSet, gOwn, gRet, gIf, gNext, gPar, d2, dVar, dC, dB, dT, bAnd, bOr, bNot, dIf, dAndV, dOrV, dNotV, dCons, dNil, dTup, dLst, dCall, dM, dSl, dPt, dNoP, oEq, oNe, oIn, oNi, view, startE, ends, mk, okM, notScr, kName, kTup, kCons, kNil, big, F_law_cell, hk, h, e, Res.need]
abbrev s_law_cell : Stmt := top 11
theorem sc_law_cell : FnScope ["script", "k"] ["script", "k"] (defScope s_law_cell) := ⟨rfl, rfl, rfl, by decide +kernel, rfl, by decide +kernel, by decide +kernel⟩
theorem ok_law_cell {f : Addr} {fd : FuncData} (F : Fun K "_law_cell" "_law_cell" s_law_cell f fd) (z_len : mg "len" = none) : FnOk P w K mg base (L2.CX P w) 1 f fd ["script", "k"] (spD K cl 2 F_law_cell) := by
  refine okD F sc_law_cell (by decide) (fun cdv A outer s H E hr => ?_)
  have hu := hu64 hr
  exact ⟨_, g_law_cell, (b_cons (s_if (t_lt (q_var 1 (pv 1)) (QF.qe (q_len z_len (a_cons (q_var 0 (pv 0)) a_nil)))) (b_one (s_ret (q_sub_ (q_var 0 (pv 0)) (q_var 1 (pv 1))))) b_nil)
      (b_one (s_ret q_int))), fun ds hl hne => rd_law_cell hl hne⟩
def g_law_mix : DS :=
  (gSeq (gSet 3 (d2 oMod (d2 oMul (dVar 0) (dC (.int 48271))) (dVar 1)))
    (gRet (d2 oMod (d2 oMod (d2 oMul (dVar 3) (d2 oAdd (dVar 3) (dC (.int 7)))) (dVar 1)) (dVar 2))))
theorem rd_law_mix {ds : List D} (hl : ds.length = 3) (hne : F_law_mix ds ≠ .stuck) : g_law_mix (ends (F_law_mix ds)) (startE 4 ds) := by
  unfold g_law_mix
  obtain ⟨c, p, m, rfl, h1, h2, h3⟩ := sh_law_mix hne
  have a1 := Int.emod_nonneg (c * 48271) (b := p) (by omega)
  have a2 := Int.emod_lt_of_pos (c * 48271) h1
  have k1 : smallI c ∨ smallI 48271 := Or.inr (by unfold smallI; omega)
  have k2 : smallI (c * 48271 % p) ∨ smallI (c * 48271 % p + 7) := Or.inl (by unfold smallI; omega)
  simp [gSeq, gSet, gOwn, gRet, gIf, gNext, gPar, d2, dVar, dC, dB, dT, bAnd, bOr, bNot, dIf, dAndV, dOrV, dNotV, dCons, dNil, dTup, dLst, dCall, dM, dSl, dPt, dNoP, oEq, oNe, oIn, oNi, view, startE, ends, mk, okM, notScr, kName, kTup, kCons, kNil, big, F_law_mix, mixZ, Res.need, h1, h2, h3, k1, k2]
abbrev s_law_mix : Stmt := top 12
theorem sc_law_mix : FnScope ["cell", "prime", "many", "blend"] ["cell", "prime", "many"] (defScope s_law_mix) := ⟨rfl, rfl, rfl, by decide +kernel, rfl, by decide +kernel, by decide +kernel⟩
theorem ok_law_mix {f : Addr} {fd : FuncData} (F : Fun K "_law_mix" "_law_mix" s_law_mix f fd)  : FnOk P w K mg base (L2.CX P w) 1 f fd ["cell", "prime", "many"] (spD K cl 3 F_law_mix) := by
  refine okD F sc_law_mix (by decide) (fun cdv A outer s H E hr => ?_)
  have hu := hu64 hr
  exact ⟨_, g_law_mix, (b_cons (s_set (i := 3) (q_mod (QF.qe (q_mul (q_var 0 (pv 0)) (QF.qe q_int))) (q_var 1 (pv 1))) sc_law_mix.nd rfl (by first | exact Or.inl rfl | exact Or.inr rfl))
      (b_one (s_ret (q_mod (QF.qe (q_mod (QF.qe (q_mul (q_var 3 (pv 3)) (QF.qe (q_add (q_var 3 (pv 3)) (QF.qe q_int))))) (q_var 1 (pv 1)))) (q_var 2 (pv 2)))))), fun ds hl hne => rd_law_mix hl hne⟩
def g_law_wheel : DS :=
  (gSeq (gPar 2 3 true false (fun δ => ((dCons (dC (.str (Str.ofString "hcfbdaeg").cps.toList)) dNil) δ).bind cList) (dC (.str (Str.ofString "").cps.toList)))
    (gSeq (gFor (fun δ => ((dCons (d2 oAdd (dC (.int 1)) (dCall 3 F_law_mix (dCons (dVar 0) (dCons (dC (.int 9973)) (dCons (dVar 1) dNil))))) dNil) δ).bind iR1) (kName 4)
      (gSeq (gSet 5 (d2 oIx (dVar 2) (dCall 3 F_law_mix (dCons (d2 oAdd (dVar 0) (d2 oMul (dC (.int 19)) (dVar 4))) (dCons (dC (.int 9967)) (dCons (fun δ => ((dCons (dVar 2) dNil) δ).bind cLen) dNil))))))
    (gSeq (gRem 2 (dVar 5))
    (gSet 3 (d2 oAdd (dVar 3) (dVar 5))))))
    (gRet (fun δ => noBox (dVar 3 δ)))))
theorem rd_law_wheel {ds : List D} (hl : ds.length = 2) (hne : F_law_wheel ds ≠ .stuck) : g_law_wheel (ends (F_law_wheel ds)) (startE 6 ds) := by
  unfold g_law_wheel
  obtain ⟨c, m, rfl, h1, h2⟩ := sh_law_wheel hne
  have hm := wheelN_le (c := c) ⟨h1, h2⟩
  have l0 := mix_lo c 9973 h1
  have l1 := mix_hi c 9973 h1
  have hs : (Str.ofString "hcfbdaeg").cps.toList = pool0 := by decide +kernel
  have hs0 : (Str.ofString "").cps.toList = [] := by decide +kernel
  have eF : F_law_wheel [.int c, .int m] = .ok (.str (wheelL c m)) := need_ok ⟨h1, h2⟩ _
  have e1 : F_law_mix [.int c, .int 9973, .int m] = .ok (.int (mixZ c 9973 m)) := mix_ok (by decide) (by decide) h1
  have e2 : cList [.str pool0] = .ok (.list ((pool0.map fun c => [c]).map D.str)) := rfl
  have e3 : immAll ((pool0.map fun c => [c]).map D.str) = true := imm_strs _
  rw [eF]
  refine sq_par true false (.list ((pool0.map fun c => [c]).map D.str)) (.str []) ?_ ?_ (by simp [startE]) (by simp [startE]) ⟨e3, fun _ => ⟨rfl, rfl⟩⟩ ⟨rfl, fun z => by cases z⟩ ?_
  · simp [dCons, dNil, dC, hs, e2]
  · simp [dC, hs0]
  refine sq_rng 0 (wheelN c m) ?_ (fun j ε => j ≤ 8 ∧ ∃ x4 x5, ε = [some (.fz (.int c)), some (.fz (.int m)), some (.ow (.list (((drawn c j).1.map fun c => [c]).map D.str))), some (.fz (.str (drawn c j).2)), x4, x5]) ⟨Nat.zero_le _, none, none, ?_⟩ (fun j ε hj hI => ?_) (fun ε hI => ?_)
  · simp [view, startE, mk, dCons, dNil, d2, dC, dVar, dCall, e1, Res.need, big]
    rw [if_pos (by omega)]
    rfl
  · rfl
  · obtain ⟨hj8, x4, x5, rfl⟩ := hI
    have hj' : j < 8 := by omega
    obtain ⟨d1, d2', d3, d4⟩ := drawn_ok c j (by omega)
    have hp : (0 : Int) < (((drawn c j).1.length : Nat) : Int) := by omega
    have q0 := mix_lo (c + 19 * (j : Int)) 9967 hp
    have q1 := mix_hi (c + 19 * (j : Int)) 9967 hp
    have hx : (drawn c j).1.getD (mixZ (c + 19 * (j : Int)) 9967 (drawn c j).1.length).toNat 0 ∈ (drawn c j).1 := by
      have hl : (mixZ (c + 19 * (j : Int)) 9967 (drawn c j).1.length).toNat < (drawn c j).1.length := by omega
      rw [List.getD_eq_getElem?_getD, List.getElem?_eq_getElem hl]
      exact List.getElem_mem hl
    have key : drawn c (j + 1) = ((drawn c j).1.erase ((drawn c j).1.getD (mixZ (c + 19 * (j : Int)) 9967 (drawn c j).1.length).toNat 0), (drawn c j).2 ++ [(drawn c j).1.getD (mixZ (c + 19 * (j : Int)) 9967 (drawn c j).1.length).toNat 0]) := rfl
    have at1 : atI (((drawn c j).1.map fun c => [c]).map D.str) (mixZ (c + 19 * (j : Int)) 9967 (drawn c j).1.length) = some (.str [(drawn c j).1.getD (mixZ (c + 19 * (j : Int)) 9967 (drawn c j).1.length).toNat 0]) := by
      rw [atI_nat' q0 (by rw [List.length_map, List.length_map]; exact q1), List.getElem?_map, List.getElem?_map]
      have hl : (mixZ (c + 19 * (j : Int)) 9967 (drawn c j).1.length).toNat < (drawn c j).1.length := by omega
      rw [List.getD_eq_getElem?_getD, List.getElem?_eq_getElem hl]
      rfl
    have m1 : F_law_mix [.int (c + 19 * (j : Int)), .int 9967, .int ((drawn c j).1.length : Nat)] = .ok (.int (mixZ (c + 19 * (j : Int)) 9967 (drawn c j).1.length)) := mix_ok (by decide) (by decide) hp
    have k1 : smallI 19 ∨ smallI (j : Int) := Or.inl (by unfold smallI; omega)
    have er : ((drawn c j).1.map fun c => [c]).erase [(drawn c j).1.getD (mixZ (c + 19 * (j : Int)) 9967 (drawn c j).1.length).toNat 0] = ((drawn c j).1.erase ((drawn c j).1.getD (mixZ (c + 19 * (j : Int)) 9967 (drawn c j).1.length).toNat 0)).map fun c => [c] := erase_one _ _
    rw [key]
    generalize (drawn c j).1.getD (mixZ (c + 19 * (j : Int)) 9967 (drawn c j).1.length).toNat 0 = x at hx at1 er
    have hx' : [x] ∈ (drawn c j).1.map fun c => [c] := List.mem_map_of_mem (f := fun c => [c]) hx
    refine ⟨_, rfl, ?_⟩
    refine sq_set (.str [x]) ?_ (by simp) rfl (sq_rem ((drawn c j).1.map fun c => [c]) [x] rfl ?_ hx' ?_)
    · simp [view, Sl.d, d2, dVar, dCall, dCons, dNil, dC, oMul, oAdd, Res.need, k1, cLen, m1]
      have := at1
      rw [List.map_map] at this
      rw [this]
      rfl
    · simp [view, Sl.d, dVar]
    · rw [er]
      have l3 : (drawn c j).2.length + 1 ≤ 1000000 := by omega
      refine st_set (.str ((drawn c j).2 ++ [x])) ?_ (by simp) rfl ⟨by omega, _, _, rfl⟩
      simp [view, Sl.d, d2, dVar, oAdd, Res.need, l3]
  · obtain ⟨_, x4, x5, rfl⟩ := hI
    simp [gRet, view, Sl.d, dVar, noBox, isBox, ends, wheelL]
abbrev s_law_wheel : Stmt := top 13
theorem sc_law_wheel : FnScope ["cell", "most", "pool", "gathered", "n", "letter"] ["cell", "most"] (defScope s_law_wheel) := ⟨rfl, rfl, rfl, by decide +kernel, rfl, by decide +kernel, by decide +kernel⟩
theorem ok_law_wheel {f : Addr} {fd : FuncData} (F : Fun K "_law_wheel" "_law_wheel" s_law_wheel f fd) (c_law_mix : Cal P w K mg base cl 1 "_law_mix" 3 F_law_mix) (z_range : mg "range" = none) (z_list : mg "list" = none) (z_len : mg "len" = none) : FnOk P w K mg base (L2.CX P w) 2 f fd ["cell", "most"] (spD K cl 2 F_law_wheel) := by
  refine okD F sc_law_wheel (by decide) (fun cdv A outer s H E hr => ?_)
  have hu := hu64 hr
  exact ⟨_, g_law_wheel, (b_cons (s_par (i := 2) (j := 3) true false (q_list rfl z_list (a_cons (QF.qe q_str) a_nil)) q_str rfl sc_law_wheel.nd rfl rfl (by decide) rfl rfl rfl)
      (b_cons (s_for (passes_of rfl) rfl (i_range1 z_range (a_cons (QF.qe (q_add (QF.qe q_int) (QF.qe (q_fn c_law_mix (hr.mono (by decide)) (takes_of rfl rfl rfl rfl) (a_cons (q_var 0 (pv 0)) (a_cons (QF.qe q_int) (a_cons (q_var 1 (pv 1)) a_nil))))))) a_nil)) (g_name (i := 4) sc_law_wheel.nd rfl (by first | exact Or.inl rfl | exact Or.inr rfl)) (b_cons (s_set (i := 5) (q_sub_ (q_var 2 (pv 2)) (QF.qe (q_fn c_law_mix (hr.mono (by decide)) (takes_of rfl rfl rfl rfl) (a_cons (QF.qe (q_add (q_var 0 (pv 0)) (QF.qe (q_mul (QF.qe q_int) (q_var 4 (pv 4)))))) (a_cons (QF.qe q_int) (a_cons (QF.qe (q_len z_len (a_cons (q_var 2 (pv 2)) a_nil))) a_nil)))))) sc_law_wheel.nd rfl (by first | exact Or.inl rfl | exact Or.inr rfl))
      (b_cons (s_rem (i := 2) (pv 2) (q_var 5 (pv 5)))
      (b_one (s_set (i := 3) (q_add (q_var 3 (pv 3)) (q_var 5 (pv 5))) sc_law_wheel.nd rfl (by first | exact Or.inl rfl | exact Or.inr rfl))))))
      (b_one (s_ret (QE.qn (q_var 3 (pv 3))))))), fun ds hl hne => rd_law_wheel hl hne⟩
def g_place : DS :=
  (gSeq (gIf (dB (d2 oNi (dVar 1) (dVar 0))) (fun d ε => d.ex 0 ε) gNext)
    (gRet (dM mIndex (dVar 0) (dVar 1))))
theorem rd_place {ds : List D} (hl : ds.length = 2) (hne : F_place ds ≠ .stuck) : g_place (ends (F_place ds)) (startE 2 ds) := by
  unfold g_place
  obtain ⟨w, c, rfl⟩ := sh_place hne
  by_cases h : c ∈ w
  · simp [gSeq, gSet, gOwn, gRet, gIf, gNext, gPar, d2, dVar, dC, dB, dT, bAnd, bOr, bNot, dIf, dAndV, dOrV, dNotV, dCons, dNil, dTup, dLst, dCall, dM, dSl, dPt, dNoP, oEq, oNe, oIn, oNi, view, startE, ends, mk, okM, notScr, kName, kTup, kCons, kNil, big, F_place, h, Res.need]
  · simp [gSeq, gSet, gOwn, gRet, gIf, gNext, gPar, d2, dVar, dC, dB, dT, bAnd, bOr, bNot, dIf, dAndV, dOrV, dNotV, dCons, dNil, dTup, dLst, dCall, dM, dSl, dPt, dNoP, oEq, oNe, oIn, oNi, view, startE, ends, mk, okM, notScr, kName, kTup, kCons, kNil, big, F_place, h, Res.need]
abbrev s_place : Stmt := top 4
theorem sc_place : FnScope ["wheel", "letter"] ["wheel", "letter"] (defScope s_place) := ⟨rfl, rfl, rfl, by decide +kernel, rfl, by decide +kernel, by decide +kernel⟩
theorem ok_place {f : Addr} {fd : FuncData} (F : Fun K "place" "place" s_place f fd) (x_NoLetter : ExcT K mg "NoLetter" (cl 0)) : FnOk P w K mg base (L2.CX P w) 1 f fd ["wheel", "letter"] (spD K cl 2 F_place) := by
  refine okD F sc_place (by decide) (fun cdv A outer s H E hr => ?_)
  have hu := hu64 hr
  exact ⟨_, g_place, (b_cons (s_if (t_ni (q_var 1 (pv 1)) (q_var 0 (pv 0))) (b_one (s_raiseX (n := 0) x_NoLetter rfl (takes_of rfl rfl rfl rfl))) b_nil)
      (b_one (s_ret (q_index (q_var 0 (pv 0)) (q_var 1 (pv 1)))))), fun ds hl hne => rd_place hl hne⟩
def g_way : DS :=
  (gSeq (gSet 4 (d2 oMod (d2 oSub (dCall 2 F_place (dCons (dVar 1) (dCons (dVar 3) dNil))) (dCall 2 F_place (dCons (dVar 1) (dCons (dVar 2) dNil)))) (fun δ => ((dCons (dVar 1) dNil) δ).bind cLen)))
    (gSeq (gIf (dT (d2 oIx (dVar 0) (dC (.int 0)))) (gRet (fun δ => ((dCons (dVar 4) (dCons (d2 oSub (fun δ => ((dCons (dVar 1) dNil) δ).bind cLen) (dVar 4)) dNil)) δ).bind cMin)) gNext)
    (gRet (fun δ => noBox (dVar 4 δ)))))
theorem rd_way {ds : List D} (hl : ds.length = 4) (hne : F_way ds ≠ .stuck) : g_way (ends (F_way ds)) (startE 5 ds) := by
  unfold g_way
  obtain ⟨b, f, w, a, c, rfl, hw⟩ := sh_way hne
  have hb : w.length ≤ 1000000 := hw
  by_cases h1 : c ∈ w
  · by_cases h2 : a ∈ w
    · have hp : 0 < w.length := Nat.lt_of_le_of_lt (Nat.zero_le _) (idx_lt h1)
      have hp' : (0 : Int) < (w.length : Int) := by omega
      cases b
      · simp [gSeq, gSet, gOwn, gRet, gIf, gNext, gPar, d2, dVar, dC, dB, dT, bAnd, bOr, bNot, dIf, dAndV, dOrV, dNotV, dCons, dNil, dTup, dLst, dCall, dM, dSl, dPt, dNoP, oEq, oNe, oIn, oNi, view, startE, ends, mk, okM, notScr, kName, kTup, kCons, kNil, big, F_way, F_place, h1, h2, Res.need, hb, wayZ, fwd, atI, ixN, hp, hp']
        try rfl
      · simp [gSeq, gSet, gOwn, gRet, gIf, gNext, gPar, d2, dVar, dC, dB, dT, bAnd, bOr, bNot, dIf, dAndV, dOrV, dNotV, dCons, dNil, dTup, dLst, dCall, dM, dSl, dPt, dNoP, oEq, oNe, oIn, oNi, view, startE, ends, mk, okM, notScr, kName, kTup, kCons, kNil, big, F_way, F_place, h1, h2, Res.need, hb, wayZ, fwd, atI, ixN, hp, hp']
        try rfl
    · simp [gSeq, gSet, gOwn, gRet, gIf, gNext, gPar, d2, dVar, dC, dB, dT, bAnd, bOr, bNot, dIf, dAndV, dOrV, dNotV, dCons, dNil, dTup, dLst, dCall, dM, dSl, dPt, dNoP, oEq, oNe, oIn, oNi, view, startE, ends, mk, okM, notScr, kName, kTup, kCons, kNil, big, F_way, F_place, h1, h2, Res.need, hb]
  · simp [gSeq, gSet, gOwn, gRet, gIf, gNext, gPar, d2, dVar, dC, dB, dT, bAnd, bOr, bNot, dIf, dAndV, dOrV, dNotV, dCons, dNil, dTup, dLst, dCall, dM, dSl, dPt, dNoP, oEq, oNe, oIn, oNi, view, startE, ends, mk, okM, notScr, kName, kTup, kCons, kNil, big, F_way, F_place, h1, Res.need, hb]
abbrev s_way : Stmt := top 5
theorem sc_way : FnScope ["manner", "wheel", "one", "other", "forward"] ["manner", "wheel", "one", "other"] (defScope s_way) := ⟨rfl, rfl, rfl, by decide +kernel, rfl, by decide +kernel, by decide +kernel⟩
theorem ok_way {f : Addr} {fd : FuncData} (F : Fun K "way" "way" s_way f fd) (c_place : Cal P w K mg base cl 1 "place" 2 F_place) (z_len : mg "len" = none) (z_min : mg "min" = none) : FnOk P w K mg base (L2.CX P w) 2 f fd ["manner", "wheel", "one", "other"] (spD K cl 4 F_way) := by
  refine okD F sc_way (by decide) (fun cdv A outer s H E hr => ?_)
  have hu := hu64 hr
  exact ⟨_, g_way, (b_cons (s_set (i := 4) (q_mod (QF.qe (q_sub (QF.qe (q_fn c_place (hr.mono (by decide)) (takes_of rfl rfl rfl rfl) (a_cons (q_var 1 (pv 1)) (a_cons (q_var 3 (pv 3)) a_nil)))) (QF.qe (q_fn c_place (hr.mono (by decide)) (takes_of rfl rfl rfl rfl) (a_cons (q_var 1 (pv 1)) (a_cons (q_var 2 (pv 2)) a_nil)))))) (QF.qe (q_len z_len (a_cons (q_var 1 (pv 1)) a_nil)))) sc_way.nd rfl (by first | exact Or.inl rfl | exact Or.inr rfl))
      (b_cons (s_if (t_val (QF.qe (q_sub_ (q_var 0 (pv 0)) (QF.qe q_int)))) (b_one (s_ret (q_min2 rfl z_min (a_cons (q_var 4 (pv 4)) (a_cons (QF.qe (q_sub (QF.qe (q_len z_len (a_cons (q_var 1 (pv 1)) a_nil))) (q_var 4 (pv 4)))) a_nil))))) b_nil)
      (b_one (s_ret (QE.qn (q_var 4 (pv 4))))))), fun ds hl hne => rd_way hl hne⟩
def g_far : DS :=
  (gSeq (gIf (bAnd (dB (d2 oEq (dVar 2) (dVar 3))) (dT (d2 oIx (dVar 0) (dC (.int 1))))) (gSeq (gDrop (dCall 2 F_place (dCons (dVar 1) (dCons (dVar 2) dNil))))
    (gRet (fun δ => ((dCons (dVar 1) dNil) δ).bind cLen))) gNext)
    (gRet (dCall 4 F_way (dCons (dVar 0) (dCons (dVar 1) (dCons (dVar 2) (dCons (dVar 3) dNil)))))))
theorem rd_far {ds : List D} (hl : ds.length = 4) (hne : F_far ds ≠ .stuck) : g_far (ends (F_far ds)) (startE 4 ds) := by
  unfold g_far
  obtain ⟨b, f, w, a, c, rfl, hw⟩ := sh_far hne
  have hb : w.length ≤ 1000000 := hw
  by_cases h1 : c ∈ w
  · by_cases h2 : a ∈ w
    · by_cases h3 : a = c
      · subst h3
        cases f
        · simp [gSeq, gSet, gOwn, gRet, gIf, gNext, gPar, d2, dVar, dC, dB, dT, bAnd, bOr, bNot, dIf, dAndV, dOrV, dNotV, dCons, dNil, dTup, dLst, dCall, dM, dSl, dPt, dNoP, oEq, oNe, oIn, oNi, view, startE, ends, mk, okM, notScr, kName, kTup, kCons, kNil, big, F_far, F_way, F_place, h1, Res.need, hb, farZ, atI, ixN]
        · simp [gSeq, gSet, gOwn, gRet, gIf, gNext, gPar, d2, dVar, dC, dB, dT, bAnd, bOr, bNot, dIf, dAndV, dOrV, dNotV, dCons, dNil, dTup, dLst, dCall, dM, dSl, dPt, dNoP, oEq, oNe, oIn, oNi, view, startE, ends, mk, okM, notScr, kName, kTup, kCons, kNil, big, F_far, F_way, F_place, h1, Res.need, hb, farZ, atI, ixN, gDrop]
      · simp [gSeq, gSet, gOwn, gRet, gIf, gNext, gPar, d2, dVar, dC, dB, dT, bAnd, bOr, bNot, dIf, dAndV, dOrV, dNotV, dCons, dNil, dTup, dLst, dCall, dM, dSl, dPt, dNoP, oEq, oNe, oIn, oNi, view, startE, ends, mk, okM, notScr, kName, kTup, kCons, kNil, big, F_far, F_way, F_place, h1, h2, h3, Res.need, hb, farZ, atI, ixN]
    · have h3 : a ≠ c := fun z => h2 (z ▸ h1)
      simp [gSeq, gSet, gOwn, gRet, gIf, gNext, gPar, d2, dVar, dC, dB, dT, bAnd, bOr, bNot, dIf, dAndV, dOrV, dNotV, dCons, dNil, dTup, dLst, dCall, dM, dSl, dPt, dNoP, oEq, oNe, oIn, oNi, view, startE, ends, mk, okM, notScr, kName, kTup, kCons, kNil, big, F_far, F_way, F_place, h1, h2, h3, Res.need, hb, farZ, atI, ixN]
  · by_cases h3 : a = c
    · subst h3
      cases f
      · simp [gSeq, gSet, gOwn, gRet, gIf, gNext, gPar, d2, dVar, dC, dB, dT, bAnd, bOr, bNot, dIf, dAndV, dOrV, dNotV, dCons, dNil, dTup, dLst, dCall, dM, dSl, dPt, dNoP, oEq, oNe, oIn, oNi, view, startE, ends, mk, okM, notScr, kName, kTup, kCons, kNil, big, F_far, F_way, F_place, h1, Res.need, hb, farZ, atI, ixN]
      · simp [gSeq, gSet, gOwn, gRet, gIf, gNext, gPar, d2, dVar, dC, dB, dT, bAnd, bOr, bNot, dIf, dAndV, dOrV, dNotV, dCons, dNil, dTup, dLst, dCall, dM, dSl, dPt, dNoP, oEq, oNe, oIn, oNi, view, startE, ends, mk, okM, notScr, kName, kTup, kCons, kNil, big, F_far, F_way, F_place, h1, Res.need, hb, farZ, atI, ixN, gDrop]
    · simp [gSeq, gSet, gOwn, gRet, gIf, gNext, gPar, d2, dVar, dC, dB, dT, bAnd, bOr, bNot, dIf, dAndV, dOrV, dNotV, dCons, dNil, dTup, dLst, dCall, dM, dSl, dPt, dNoP, oEq, oNe, oIn, oNi, view, startE, ends, mk, okM, notScr, kName, kTup, kCons, kNil, big, F_far, F_way, F_place, h1, h3, Res.need, hb, farZ, atI, ixN]
abbrev s_far : Stmt := top 6
theorem sc_far : FnScope ["manner", "wheel", "one", "other"] ["manner", "wheel", "one", "other"] (defScope s_far) := ⟨rfl, rfl, rfl, by decide +kernel, rfl, by decide +kernel, by decide +kernel⟩
theorem ok_far {f : Addr} {fd : FuncData} (F : Fun K "far" "far" s_far f fd) (c_way : Cal P w K mg base cl 2 "way" 4 F_way) (c_place : Cal P w K mg base cl 1 "place" 2 F_place) (z_len : mg "len" = none) : FnOk P w K mg base (L2.CX P w) 3 f fd ["manner", "wheel", "one", "other"] (spD K cl 4 F_far) := by
  refine okD F sc_far (by decide) (fun cdv A outer s H E hr => ?_)
  have hu := hu64 hr
  exact ⟨_, g_far, (b_cons (s_if (QW.qt (w_and (t_eq hu (q_var 2 (pv 2)) (q_var 3 (pv 3))) (w_and1 (t_val (QF.qe (q_sub_ (q_var 0 (pv 0)) (QF.qe q_int))))))) (b_cons (s_expr (QF.qe (q_fn c_place (hr.mono (by decide)) (takes_of rfl rfl rfl rfl) (a_cons (q_var 1 (pv 1)) (a_cons (q_var 2 (pv 2)) a_nil)))))
      (b_one (s_ret (q_len z_len (a_cons (q_var 1 (pv 1)) a_nil))))) b_nil)
      (b_one (s_ret (q_fn c_way (hr.mono (by decide)) (takes_of rfl rfl rfl rfl) (a_cons (q_var 0 (pv 0)) (a_cons (q_var 1 (pv 1)) (a_cons (q_var 2 (pv 2)) (a_cons (q_var 3 (pv 3)) a_nil)))))))), fun ds hl hne => rd_far hl hne⟩
def g_law_are_ways : DS :=
  (gSeq (gSet 2 (fun δ => ((dCons (dVar 0) dNil) δ).bind cLen))
    (gSeq (gForN 0 (kName 3)
      (gForN 0 (kName 4)
      (gSeq (gPar 5 6 false false (dCall 4 F_far (dCons (dTup (dCons (dC (.bool false)) (dCons (dVar 1) dNil))) (dCons (dVar 0) (dCons (dVar 3) (dCons (dVar 4) dNil))))) (dCall 4 F_far (dCons (dTup (dCons (dC (.bool true)) (dCons (dVar 1) dNil))) (dCons (dVar 0) (dCons (dVar 3) (dCons (dVar 4) dNil))))))
    (gSeq (gSet 7 (dCall 4 F_far (dCons (dTup (dCons (dC (.bool false)) (dCons (dVar 1) dNil))) (dCons (dVar 0) (dCons (dVar 4) (dCons (dVar 3) dNil))))))
    (gSeq (gIf (bAnd (dB (d2 oNe (dVar 3) (dVar 4))) (bOr (dB (d2 oNe (d2 oAdd (dVar 5) (dVar 7)) (dVar 2))) (dB (d2 oNe (dVar 6) (fun δ => ((dCons (dVar 5) (dCons (dVar 7) dNil)) δ).bind cMin))))) (gRet (dC (.bool false))) gNext)
    (gSeq (gIf (bAnd (dB (d2 oNe (dVar 3) (dVar 4))) (bNot (dB (dChain oLt oLe (dC (.int 0)) (dVar 6) (d2 oDiv (dVar 2) (dC (.int 2))))))) (gRet (dC (.bool false))) gNext)
    (gSeq (gIf (bAnd (dB (d2 oEq (dVar 3) (dVar 4))) (bOr (dB (d2 oNe (dVar 5) (dVar 7))) (dB (d2 oNe (dVar 6) (dVar 5))))) (gRet (dC (.bool false))) gNext)
    (gSeq (gIf (bAnd (dB (d2 oEq (dVar 3) (dVar 4))) (dB (d2 oNe (dVar 5) (d2 oMul (dVar 2) (fun δ => ((dCons (dVar 1) dNil) δ).bind cInt))))) (gRet (dC (.bool false))) gNext)
    (gForN 0 (kName 8)
      (gFor (fun δ => ((dTup (dCons (dTup (dCons (dC (.bool false)) (dCons (dVar 5) dNil))) (dCons (dTup (dCons (dC (.bool true)) (dCons (dVar 6) dNil))) dNil))) δ).bind itemsF) (kTup (kCons (kName 9) (kCons (kName 10) kNil)))
      (gSeq (gSet 11 (dTup (dCons (dVar 9) (dCons (dVar 1) dNil))))
    (gSeq (gSet 12 (d2 oAdd (dCall 4 F_far (dCons (dVar 11) (dCons (dVar 0) (dCons (dVar 3) (dCons (dVar 8) dNil))))) (dCall 4 F_far (dCons (dVar 11) (dCons (dVar 0) (dCons (dVar 8) (dCons (dVar 4) dNil)))))))
    (gIf (bAnd (dB (d2 oNe (dVar 3) (dVar 4))) (dB (d2 oLt (dVar 12) (dVar 10)))) (gRet (dC (.bool false))) gNext)))))))))))))
    (gRet (dC (.bool true)))))
theorem rd_law_are_ways {ds : List D} (hl : ds.length = 2) (hne : F_law_are_ways ds ≠ .stuck) : g_law_are_ways (ends (F_law_are_ways ds)) (startE 13 ds) := by
  unfold g_law_are_ways
  obtain ⟨w, f, rfl, hnd, hpos, h8⟩ := sh_law_are_ways hne
  have hb : w.length ≤ 1000000 := by omega
  have eF : F_law_are_ways [.str w, .bool f] = .ok (.bool true) := need_ok ⟨hnd, hpos, h8⟩ _
  rw [eF]
  refine sq_set (.int (w.length : Nat)) (by simp [view, startE, mk, d2, dVar, dC, dB, dT, bAnd, bOr, bNot, dIf, dAndV, dOrV, dNotV, dCons, dNil, dTup, dLst, dCall, dM, dSl, dPt, dNoP, oEq, oNe, oIn, oNi, Res.need, dChain, dItems, big, hb]) (by simp [startE]) rfl ?_
  refine sq_strA (i := 0) (w := w) rfl (fun ε => ∃ x3 x4 x5 x6 x7 x8 x9 x10 x11 x12, ε = [some (.fz (.str w)), some (.fz (.bool f)), some (.fz (.int (w.length : Nat))), x3, x4, x5, x6, x7, x8, x9, x10, x11, x12]) ⟨_, _, _, _, _, _, _, _, _, _, rfl⟩ (fun a ε ha hI => ?_) (fun ε hI => ?_)
  · obtain ⟨x3, x4, x5, x6, x7, x8, x9, x10, x11, x12, rfl⟩ := hI
    refine ⟨_, rfl, ?_⟩
    refine for_strA (i := 0) (w := w) rfl (fun ε => ∃ x4 x5 x6 x7 x8 x9 x10 x11 x12, ε = [some (.fz (.str w)), some (.fz (.bool f)), some (.fz (.int (w.length : Nat))), some (.fz (.str [a])), x4, x5, x6, x7, x8, x9, x10, x11, x12]) ⟨_, _, _, _, _, _, _, _, _, rfl⟩ (fun c ε hc hI => ?_) (fun ε hI => ?_)
    · obtain ⟨x4, x5, x6, x7, x8, x9, x10, x11, x12, rfl⟩ := hI
      refine ⟨_, rfl, ?_⟩
      have f1 := far_ok (b := false) (f := f) hb ha hc
      have f2 := far_ok (b := true) (f := f) hb ha hc
      have f3 := far_ok (b := false) (f := f) hb hc ha
      refine sq_par false false (.int (farZ false f w a c)) (.int (farZ true f w a c)) (by simp [view, startE, mk, d2, dVar, dC, dB, dT, bAnd, bOr, bNot, dIf, dAndV, dOrV, dNotV, dCons, dNil, dTup, dLst, dCall, dM, dSl, dPt, dNoP, oEq, oNe, oIn, oNi, Res.need, dChain, dItems, big, f1]) (by simp [view, startE, mk, d2, dVar, dC, dB, dT, bAnd, bOr, bNot, dIf, dAndV, dOrV, dNotV, dCons, dNil, dTup, dLst, dCall, dM, dSl, dPt, dNoP, oEq, oNe, oIn, oNi, Res.need, dChain, dItems, big, f2]) (by simp) (by simp) ⟨rfl, fun z => by cases z⟩ ⟨rfl, fun z => by cases z⟩ ?_
      refine sq_set (.int (farZ false f w c a)) (by simp [view, startE, mk, d2, dVar, dC, dB, dT, bAnd, bOr, bNot, dIf, dAndV, dOrV, dNotV, dCons, dNil, dTup, dLst, dCall, dM, dSl, dPt, dNoP, oEq, oNe, oIn, oNi, Res.need, dChain, dItems, big, f3]) (by simp) rfl ?_
      obtain ⟨m1, m2⟩ := ways_math (f := f) ha hc
      have hsm : smallI ((w.length : Nat) : Int) := by unfold smallI; omega
      by_cases hac : a = c
      · subst hac
        obtain ⟨k1, k2, k3⟩ := m2 rfl
        refine sq_no (by simp [view, startE, mk, d2, dVar, dC, dB, dT, bAnd, bOr, bNot, dIf, dAndV, dOrV, dNotV, dCons, dNil, dTup, dLst, dCall, dM, dSl, dPt, dNoP, oEq, oNe, oIn, oNi, Res.need, dChain, dItems, big]) (sq_no (by simp [view, startE, mk, d2, dVar, dC, dB, dT, bAnd, bOr, bNot, dIf, dAndV, dOrV, dNotV, dCons, dNil, dTup, dLst, dCall, dM, dSl, dPt, dNoP, oEq, oNe, oIn, oNi, Res.need, dChain, dItems, big]) (sq_no (by simp [view, startE, mk, d2, dVar, dC, dB, dT, bAnd, bOr, bNot, dIf, dAndV, dOrV, dNotV, dCons, dNil, dTup, dLst, dCall, dM, dSl, dPt, dNoP, oEq, oNe, oIn, oNi, Res.need, dChain, dItems, big, k2]) (sq_no ?_ ?_)))
        · have km : oMul (.int ((w.length : Nat) : Int)) (.int (if f = true then 1 else 0)) = .ok (.int ((w.length : Int) * (if f = true then 1 else 0))) := need_ok (Or.inl hsm) _
          simp [view, startE, mk, d2, dVar, dC, dB, dT, bAnd, bOr, bNot, dIf, dAndV, dOrV, dNotV, dCons, dNil, dTup, dLst, dCall, dM, dSl, dPt, dNoP, oEq, oNe, oIn, oNi, Res.need, dChain, dItems, big, k3, km, -oMul_ii]
        · refine for_strA (i := 0) (w := w) rfl (fun ε => ∃ x8 x9 x10 x11 x12, ε = [some (.fz (.str w)), some (.fz (.bool f)), some (.fz (.int (w.length : Nat))), some (.fz (.str [a])), some (.fz (.str [a])), some (.fz (.int (farZ false f w a a))), some (.fz (.int (farZ true f w a a))), some (.fz (.int (farZ false f w a a))), x8, x9, x10, x11, x12]) ⟨_, _, _, _, _, rfl⟩ (fun t ε ht hI => ?_) (fun ε hI => ?_)
          · obtain ⟨x8, x9, x10, x11, x12, rfl⟩ := hI
            refine ⟨_, rfl, ?_⟩
            refine for_any (xs := [.tuple [.bool false, .int (farZ false f w a a)], .tuple [.bool true, .int (farZ true f w a a)]]) (by simp [view, startE, mk, d2, dVar, dC, dB, dT, bAnd, bOr, bNot, dIf, dAndV, dOrV, dNotV, dCons, dNil, dTup, dLst, dCall, dM, dSl, dPt, dNoP, oEq, oNe, oIn, oNi, Res.need, dChain, dItems, big]) (fun _ => (fun ε => ∃ x9 x10 x11 x12, ε = [some (.fz (.str w)), some (.fz (.bool f)), some (.fz (.int (w.length : Nat))), some (.fz (.str [a])), some (.fz (.str [a])), some (.fz (.int (farZ false f w a a))), some (.fz (.int (farZ true f w a a))), some (.fz (.int (farZ false f w a a))), some (.fz (.str [t])), x9, x10, x11, x12])) ⟨_, _, _, _, rfl⟩ (fun j x ε hx hI => ?_) (fun ε hI => ?_)
            · obtain ⟨x9, x10, x11, x12, rfl⟩ := hI
              have hx' : ∃ bb, x = .tuple [.bool bb, .int (farZ bb f w a a)] := by
                match j, hx with
                | 0, hx => cases hx; exact ⟨false, rfl⟩
                | 1, hx => cases hx; exact ⟨true, rfl⟩
              obtain ⟨bb, rfl⟩ := hx'
              refine ⟨rfl, _, rfl, ?_⟩
              have g1 := far_ok (b := bb) (f := f) hb ha ht
              have g2 := far_ok (b := bb) (f := f) hb ht ha
              refine sq_set (.tuple [.bool bb, .bool f]) (by simp [view, startE, mk, d2, dVar, dC, dB, dT, bAnd, bOr, bNot, dIf, dAndV, dOrV, dNotV, dCons, dNil, dTup, dLst, dCall, dM, dSl, dPt, dNoP, oEq, oNe, oIn, oNi, Res.need, dChain, dItems, big]) (by simp) rfl ?_
              refine sq_set (.int (farZ bb f w a t + farZ bb f w t a)) (by simp [view, startE, mk, d2, dVar, dC, dB, dT, bAnd, bOr, bNot, dIf, dAndV, dOrV, dNotV, dCons, dNil, dTup, dLst, dCall, dM, dSl, dPt, dNoP, oEq, oNe, oIn, oNi, Res.need, dChain, dItems, big, g1, g2]) (by simp) rfl ?_
              refine st_no ?_ ⟨_, _, _, _, rfl⟩
              simp [view, startE, mk, d2, dVar, dC, dB, dT, bAnd, bOr, bNot, dIf, dAndV, dOrV, dNotV, dCons, dNil, dTup, dLst, dCall, dM, dSl, dPt, dNoP, oEq, oNe, oIn, oNi, Res.need, dChain, dItems, big]
            · obtain ⟨x9, x10, x11, x12, rfl⟩ := hI
              exact ⟨_, _, _, _, _, rfl⟩
          · obtain ⟨x8, x9, x10, x11, x12, rfl⟩ := hI
            exact ⟨_, _, _, _, _, _, _, _, _, rfl⟩
      · obtain ⟨k1, k2, k3, k4⟩ := m1 hac
        refine sq_no (by simp [view, startE, mk, d2, dVar, dC, dB, dT, bAnd, bOr, bNot, dIf, dAndV, dOrV, dNotV, dCons, dNil, dTup, dLst, dCall, dM, dSl, dPt, dNoP, oEq, oNe, oIn, oNi, Res.need, dChain, dItems, big, hac, k1, k2]) (sq_no (by simp [view, startE, mk, d2, dVar, dC, dB, dT, bAnd, bOr, bNot, dIf, dAndV, dOrV, dNotV, dCons, dNil, dTup, dLst, dCall, dM, dSl, dPt, dNoP, oEq, oNe, oIn, oNi, Res.need, dChain, dItems, big, hac, k3, k4]) (sq_no (by simp [view, startE, mk, d2, dVar, dC, dB, dT, bAnd, bOr, bNot, dIf, dAndV, dOrV, dNotV, dCons, dNil, dTup, dLst, dCall, dM, dSl, dPt, dNoP, oEq, oNe, oIn, oNi, Res.need, dChain, dItems, big, hac]) (sq_no (by simp [view, startE, mk, d2, dVar, dC, dB, dT, bAnd, bOr, bNot, dIf, dAndV, dOrV, dNotV, dCons, dNil, dTup, dLst, dCall, dM, dSl, dPt, dNoP, oEq, oNe, oIn, oNi, Res.need, dChain, dItems, big, hac]) ?_)))
        refine for_strA (i := 0) (w := w) rfl (fun ε => ∃ x8 x9 x10 x11 x12, ε = [some (.fz (.str w)), some (.fz (.bool f)), some (.fz (.int (w.length : Nat))), some (.fz (.str [a])), some (.fz (.str [c])), some (.fz (.int (farZ false f w a c))), some (.fz (.int (farZ true f w a c))), some (.fz (.int (farZ false f w c a))), x8, x9, x10, x11, x12]) ⟨_, _, _, _, _, rfl⟩ (fun t ε ht hI => ?_) (fun ε hI => ?_)
        · obtain ⟨x8, x9, x10, x11, x12, rfl⟩ := hI
          refine ⟨_, rfl, ?_⟩
          refine for_any (xs := [.tuple [.bool false, .int (farZ false f w a c)], .tuple [.bool true, .int (farZ true f w a c)]]) (by simp [view, startE, mk, d2, dVar, dC, dB, dT, bAnd, bOr, bNot, dIf, dAndV, dOrV, dNotV, dCons, dNil, dTup, dLst, dCall, dM, dSl, dPt, dNoP, oEq, oNe, oIn, oNi, Res.need, dChain, dItems, big]) (fun _ => (fun ε => ∃ x9 x10 x11 x12, ε = [some (.fz (.str w)), some (.fz (.bool f)), some (.fz (.int (w.length : Nat))), some (.fz (.str [a])), some (.fz (.str [c])), some (.fz (.int (farZ false f w a c))), some (.fz (.int (farZ true f w a c))), some (.fz (.int (farZ false f w c a))), some (.fz (.str [t])), x9, x10, x11, x12])) ⟨_, _, _, _, rfl⟩ (fun j x ε hx hI => ?_) (fun ε hI => ?_)
          · obtain ⟨x9, x10, x11, x12, rfl⟩ := hI
            have hx' : ∃ bb, x = .tuple [.bool bb, .int (farZ bb f w a c)] := by
              match j, hx with
              | 0, hx => cases hx; exact ⟨false, rfl⟩
              | 1, hx => cases hx; exact ⟨true, rfl⟩
            obtain ⟨bb, rfl⟩ := hx'
            refine ⟨rfl, _, rfl, ?_⟩
            have g1 := far_ok (b := bb) (f := f) hb ha ht
            have g2 := far_ok (b := bb) (f := f) hb ht hc
            refine sq_set (.tuple [.bool bb, .bool f]) (by simp [view, startE, mk, d2, dVar, dC, dB, dT, bAnd, bOr, bNot, dIf, dAndV, dOrV, dNotV, dCons, dNil, dTup, dLst, dCall, dM, dSl, dPt, dNoP, oEq, oNe, oIn, oNi, Res.need, dChain, dItems, big]) (by simp) rfl ?_
            refine sq_set (.int (farZ bb f w a t + farZ bb f w t c)) (by simp [view, startE, mk, d2, dVar, dC, dB, dT, bAnd, bOr, bNot, dIf, dAndV, dOrV, dNotV, dCons, dNil, dTup, dLst, dCall, dM, dSl, dPt, dNoP, oEq, oNe, oIn, oNi, Res.need, dChain, dItems, big, g1, g2]) (by simp) rfl ?_
            refine st_no ?_ ⟨_, _, _, _, rfl⟩
            have tm := tri_math (b := bb) (f := f) ha hc ht hac
            simp [view, startE, mk, d2, dVar, dC, dB, dT, bAnd, bOr, bNot, dIf, dAndV, dOrV, dNotV, dCons, dNil, dTup, dLst, dCall, dM, dSl, dPt, dNoP, oEq, oNe, oIn, oNi, Res.need, dChain, dItems, big, hac, tm]
          · obtain ⟨x9, x10, x11, x12, rfl⟩ := hI
            exact ⟨_, _, _, _, _, rfl⟩
        · obtain ⟨x8, x9, x10, x11, x12, rfl⟩ := hI
          exact ⟨_, _, _, _, _, _, _, _, _, rfl⟩
    · obtain ⟨x4, x5, x6, x7, x8, x9, x10, x11, x12, rfl⟩ := hI
      exact ⟨_, _, _, _, _, _, _, _, _, _, rfl⟩
  · obtain ⟨x3, x4, x5, x6, x7, x8, x9, x10, x11, x12, rfl⟩ := hI
    exact st_ret (.bool true) rfl rfl
abbrev s_law_are_ways : Stmt := top 14
theorem sc_law_are_ways : FnScope ["wheel", "is_full", "many", "one", "other", "forth", "both_ways", "back", "third", "is_both", "near", "manner", "by"] ["wheel", "is_full"] (defScope s_law_are_ways) := ⟨rfl, rfl, rfl, by decide +kernel, rfl, by decide +kernel, by decide +kernel⟩
theorem ok_law_are_ways {f : Addr} {fd : FuncData} (F : Fun K "_law_are_ways" "_law_are_ways" s_law_are_ways f fd) (c_far : Cal P w K mg base cl 3 "far" 4 F_far) (z_len : mg "len" = none) (z_min : mg "min" = none) (z_int : mg "int" = none) : FnOk P w K mg base (L2.CX P w) 4 f fd ["wheel", "is_full"] (spD K cl 2 F_law_are_ways) := by
  refine okD F sc_law_are_ways (by decide) (fun cdv A outer s H E hr => ?_)
  have hu := hu64 hr
  exact ⟨_, g_law_are_ways, (b_cons (s_set (i := 2) (q_len z_len (a_cons (q_var 0 (pv 0)) a_nil)) sc_law_are_ways.nd rfl (by first | exact Or.inl rfl | exact Or.inr rfl))
      (b_cons (s_forN (i := 0) (passes_of rfl) rfl (pv 0) (g_name (i := 3) sc_law_are_ways.nd rfl (by first | exact Or.inl rfl | exact Or.inr rfl)) (b_one (s_forN (i := 0) (passes_of rfl) rfl (pv 0) (g_name (i := 4) sc_law_are_ways.nd rfl (by first | exact Or.inl rfl | exact Or.inr rfl)) (b_cons (s_par (i := 5) (j := 6) false false (q_fn c_far (hr.mono (by decide)) (takes_of rfl rfl rfl rfl) (a_cons (QF.qe (q_tup (a_cons (QF.qe q_bl) (a_cons (q_var 1 (pv 1)) a_nil)))) (a_cons (q_var 0 (pv 0)) (a_cons (q_var 3 (pv 3)) (a_cons (q_var 4 (pv 4)) a_nil))))) (q_fn c_far (hr.mono (by decide)) (takes_of rfl rfl rfl rfl) (a_cons (QF.qe (q_tup (a_cons (QF.qe q_bl) (a_cons (q_var 1 (pv 1)) a_nil)))) (a_cons (q_var 0 (pv 0)) (a_cons (q_var 3 (pv 3)) (a_cons (q_var 4 (pv 4)) a_nil))))) rfl sc_law_are_ways.nd rfl rfl (by decide) rfl rfl rfl)
      (b_cons (s_set (i := 7) (q_fn c_far (hr.mono (by decide)) (takes_of rfl rfl rfl rfl) (a_cons (QF.qe (q_tup (a_cons (QF.qe q_bl) (a_cons (q_var 1 (pv 1)) a_nil)))) (a_cons (q_var 0 (pv 0)) (a_cons (q_var 4 (pv 4)) (a_cons (q_var 3 (pv 3)) a_nil))))) sc_law_are_ways.nd rfl (by first | exact Or.inl rfl | exact Or.inr rfl))
      (b_cons (s_if (QW.qt (w_and (t_ne hu (q_var 3 (pv 3)) (q_var 4 (pv 4))) (w_and1 (QW.qt (w_or (t_ne hu (QF.qe (q_add (q_var 5 (pv 5)) (q_var 7 (pv 7)))) (q_var 2 (pv 2))) (w_or1 (t_ne hu (q_var 6 (pv 6)) (QF.qe (q_min2 rfl z_min (a_cons (q_var 5 (pv 5)) (a_cons (q_var 7 (pv 7)) a_nil))))))))))) (b_one (s_ret q_bl)) b_nil)
      (b_cons (s_if (QW.qt (w_and (t_ne hu (q_var 3 (pv 3)) (q_var 4 (pv 4))) (w_and1 (t_not (t_chain or_lt or_le sim_cmp sim_cmp (oCmp_ne _ _) (oCmp_ne _ _) (QF.qe q_int) (q_var 6 (pv 6)) (QF.qe (q_div (q_var 2 (pv 2)) (QF.qe q_int)))))))) (b_one (s_ret q_bl)) b_nil)
      (b_cons (s_if (QW.qt (w_and (t_eq hu (q_var 3 (pv 3)) (q_var 4 (pv 4))) (w_and1 (QW.qt (w_or (t_ne hu (q_var 5 (pv 5)) (q_var 7 (pv 7))) (w_or1 (t_ne hu (q_var 6 (pv 6)) (q_var 5 (pv 5))))))))) (b_one (s_ret q_bl)) b_nil)
      (b_cons (s_if (QW.qt (w_and (t_eq hu (q_var 3 (pv 3)) (q_var 4 (pv 4))) (w_and1 (t_ne hu (q_var 5 (pv 5)) (QF.qe (q_mul (q_var 2 (pv 2)) (QF.qe (q_int1 z_int (a_cons (q_var 1 (pv 1)) a_nil))))))))) (b_one (s_ret q_bl)) b_nil)
      (b_one (s_forN (i := 0) (passes_of rfl) rfl (pv 0) (g_name (i := 8) sc_law_are_ways.nd rfl (by first | exact Or.inl rfl | exact Or.inr rfl)) (b_one (s_for (passes_of rfl) rfl (i_any (q_tup (a_cons (QF.qe (q_tup (a_cons (QF.qe q_bl) (a_cons (q_var 5 (pv 5)) a_nil)))) (a_cons (QF.qe (q_tup (a_cons (QF.qe q_bl) (a_cons (q_var 6 (pv 6)) a_nil)))) a_nil)))) (g_tup rfl (gs_cons (g_name (i := 9) sc_law_are_ways.nd rfl (by first | exact Or.inl rfl | exact Or.inr rfl)) (gs_cons (g_name (i := 10) sc_law_are_ways.nd rfl (by first | exact Or.inl rfl | exact Or.inr rfl)) gs_nil)) rfl rfl (lenK_cons (lenK_cons lenK_nil))) (b_cons (s_set (i := 11) (q_tup (a_cons (q_var 9 (pv 9)) (a_cons (q_var 1 (pv 1)) a_nil))) sc_law_are_ways.nd rfl (by first | exact Or.inl rfl | exact Or.inr rfl))
      (b_cons (s_set (i := 12) (q_add (QF.qe (q_fn c_far (hr.mono (by decide)) (takes_of rfl rfl rfl rfl) (a_cons (q_var 11 (pv 11)) (a_cons (q_var 0 (pv 0)) (a_cons (q_var 3 (pv 3)) (a_cons (q_var 8 (pv 8)) a_nil)))))) (QF.qe (q_fn c_far (hr.mono (by decide)) (takes_of rfl rfl rfl rfl) (a_cons (q_var 11 (pv 11)) (a_cons (q_var 0 (pv 0)) (a_cons (q_var 8 (pv 8)) (a_cons (q_var 4 (pv 4)) a_nil))))))) sc_law_are_ways.nd rfl (by first | exact Or.inl rfl | exact Or.inr rfl))
      (b_one (s_if (QW.qt (w_and (t_ne hu (q_var 3 (pv 3)) (q_var 4 (pv 4))) (w_and1 (t_lt (q_var 12 (pv 12)) (q_var 10 (pv 10)))))) (b_one (s_ret q_bl)) b_nil)))))))))))))))))
      (b_one (s_ret q_bl)))), fun ds hl hne => rd_law_are_ways hl hne⟩
def g_turned : DS :=
  (gSeq (gSet 2 (dCall 2 F_place (dCons (dVar 0) (dCons (dVar 1) dNil))))
    (gRet (d2 oAdd (dSl (dVar 0) (dPt (dVar 2)) dNoP) (dSl (dVar 0) dNoP (dPt (dVar 2))))))
theorem rd_turned {ds : List D} (hl : ds.length = 2) (hne : F_turned ds ≠ .stuck) : g_turned (ends (F_turned ds)) (startE 3 ds) := by
  unfold g_turned
  obtain ⟨w, c, rfl, hw⟩ := sh_turned hne
  have hb : w.length ≤ 1000000 := by omega
  by_cases h : c ∈ w
  · have hi := idx_lt h
    have e1 := cut_from w (w.idxOf c) (Nat.le_of_lt hi)
    have e2 := cut_to w (w.idxOf c)
    have l1 : w.length - w.idxOf c + min (w.idxOf c) w.length ≤ 1000000 := by omega
    simp [gSeq, gSet, gOwn, gRet, gIf, gNext, gPar, d2, dVar, dC, dB, dT, bAnd, bOr, bNot, dIf, dAndV, dOrV, dNotV, dCons, dNil, dTup, dLst, dCall, dM, dSl, dPt, dNoP, oEq, oNe, oIn, oNi, view, startE, ends, mk, okM, notScr, kName, kTup, kCons, kNil, big, F_turned, F_place, h, hw, hb, Res.need, e1, e2, turnL, l1]
  · simp [gSeq, gSet, gOwn, gRet, gIf, gNext, gPar, d2, dVar, dC, dB, dT, bAnd, bOr, bNot, dIf, dAndV, dOrV, dNotV, dCons, dNil, dTup, dLst, dCall, dM, dSl, dPt, dNoP, oEq, oNe, oIn, oNi, view, startE, ends, mk, okM, notScr, kName, kTup, kCons, kNil, big, F_turned, F_place, h, hw, hb, Res.need]
abbrev s_turned : Stmt := top 7
theorem sc_turned : FnScope ["wheel", "letter", "where"] ["wheel", "letter"] (defScope s_turned) := ⟨rfl, rfl, rfl, by decide +kernel, rfl, by decide +kernel, by decide +kernel⟩
theorem ok_turned {f : Addr} {fd : FuncData} (F : Fun K "turned" "turned" s_turned f fd) (c_place : Cal P w K mg base cl 1 "place" 2 F_place) : FnOk P w K mg base (L2.CX P w) 2 f fd ["wheel", "letter"] (spD K cl 2 F_turned) := by
  refine okD F sc_turned (by decide) (fun cdv A outer s H E hr => ?_)
  have hu := hu64 hr
  exact ⟨_, g_turned, (b_cons (s_set (i := 2) (q_fn c_place (hr.mono (by decide)) (takes_of rfl rfl rfl rfl) (a_cons (q_var 0 (pv 0)) (a_cons (q_var 1 (pv 1)) a_nil))) sc_turned.nd rfl (by first | exact Or.inl rfl | exact Or.inr rfl))
      (b_one (s_ret (q_add (QF.qe (q_sl (q_var 0 (pv 0)) (o_some (q_var 2 (pv 2))) o_none)) (QF.qe (q_sl (q_var 0 (pv 0)) o_none (o_some (q_var 2 (pv 2))))))))), fun ds hl hne => rd_turned hl hne⟩
def g_mirrored : DS :=
  (gRet (d2 oAdd (dSl (dVar 0) dNoP (dPt (dC (.int 1)))) (fun δ => ((dSl (dVar 0) (dPt (dC (.int 1))) dNoP) δ).bind (oRevS List.reverse))))
theorem rd_mirrored {ds : List D} (hl : ds.length = 1) (hne : F_mirrored ds ≠ .stuck) : g_mirrored (ends (F_mirrored ds)) (startE 1 ds) := by
  unfold g_mirrored
  obtain ⟨w, rfl, hw⟩ := sh_mirrored hne
  have hb : w.length ≤ 1000000 := by omega
  have e1 : cutL w none (some 1) = w.take 1 := cut_to w 1
  have e2 : cutL w (some 1) none = w.drop 1 := by
    rcases Nat.lt_or_ge w.length 1 with q | q
    · have : w = [] := List.length_eq_zero_iff.mp (by omega)
      subst this
      rfl
    · exact cut_from w 1 q
  have l1 : w.length - 1 ≤ 1000000 := by omega
  have l2 : min 1 w.length + (w.length - 1) ≤ 1000000 := by omega
  simp [gSeq, gSet, gOwn, gRet, gIf, gNext, gPar, d2, dVar, dC, dB, dT, bAnd, bOr, bNot, dIf, dAndV, dOrV, dNotV, dCons, dNil, dTup, dLst, dCall, dM, dSl, dPt, dNoP, oEq, oNe, oIn, oNi, view, startE, ends, mk, okM, notScr, kName, kTup, kCons, kNil, big, F_mirrored, oRevS, hw, hb, Res.need, e1, e2, mirL, l1, l2]
abbrev s_mirrored : Stmt := top 8
theorem sc_mirrored : FnScope ["wheel"] ["wheel"] (defScope s_mirrored) := ⟨rfl, rfl, rfl, by decide +kernel, rfl, by decide +kernel, by decide +kernel⟩
theorem ok_mirrored {f : Addr} {fd : FuncData} (F : Fun K "mirrored" "mirrored" s_mirrored f fd)  : FnOk P w K mg base (L2.CX P w) 1 f fd ["wheel"] (spD K cl 1 F_mirrored) := by
  refine okD F sc_mirrored (by decide) (fun cdv A outer s H E hr => ?_)
  have hu := hu64 hr
  exact ⟨_, g_mirrored, (b_one (s_ret (q_add (QF.qe (q_sl (q_var 0 (pv 0)) o_none (o_some (QF.qe q_int)))) (QF.qe (q_revS (QF.qe (q_sl (q_var 0 (pv 0)) (o_some (QF.qe q_int)) o_none))))))), fun ds hl hne => rd_mirrored hl hne⟩
def g_are_alike : DS :=
  (gSeq (gIf (dB (d2 oNe (fun δ => ((dCons (dVar 1) dNil) δ).bind cSorted) (fun δ => ((dCons (dVar 2) dNil) δ).bind cSorted))) (gRet (dC (.bool false))) gNext)
    (gSeq (gForN 1 (kName 3)
      (gIf (dT (fun δ => ((dCons (dLc [4] (dItems (dVar 1)) (hName 4) bYes (d2 oNe (dCall 4 F_far (dCons (dVar 0) (dCons (dVar 1) (dCons (dVar 3) (dCons (dVar 4) dNil))))) (dCall 4 F_far (dCons (dVar 0) (dCons (dVar 2) (dCons (dVar 3) (dCons (dVar 4) dNil))))))) dNil) δ).bind cAny)) (gRet (dC (.bool false))) gNext))
    (gRet (dC (.bool true)))))
theorem rd_are_alike {ds : List D} (hl : ds.length = 3) (hne : F_are_alike ds ≠ .stuck) : g_are_alike (ends (F_are_alike ds)) (startE 5 ds) := by
  unfold g_are_alike
  obtain ⟨b, f, u, v, rfl, h1, h2, h3, h4⟩ := sh_are_alike hne
  have hu1 : ∀ c ∈ u, c < 0x110000 := fun c hc => by simpa using List.all_eq_true.mp h3 c hc
  have hv1 : ∀ c ∈ v, c < 0x110000 := fun c hc => by simpa using List.all_eq_true.mp h4 c hc
  have b1 : u.length ≤ big := Nat.le_trans h1 (by decide)
  have b2 : v.length ≤ big := Nat.le_trans h2 (by decide)
  have s1 := cSorted_str hu1 b1
  have s2 := cSorted_str hv1 b2
  have n1 := oNe_signs (l := sortN u) (m := sortN v) (fun c hc => hu1 c (sortN_mem hc)) (fun c hc => hv1 c (sortN_mem hc))
  have eF : F_are_alike [.tuple [.bool b, .bool f], .str u, .str v] = .ok (.bool (alikeB b f u v)) := need_ok ⟨h1, h2, h3, h4⟩ _
  rw [eF]
  by_cases hp : u.Perm v
  · have e1 : sortN u = sortN v := sortN_eq.mpr hp
    rw [e1] at s1 n1
    simp [gSeq, gIf, dB, d2, dVar, dCons, dNil, view, startE, Sl.d, gNext, s1, s2, n1]
    refine for_str (i := 1) (w := u) rfl (fun j ε => (∃ x3 x4, ε = [some (.fz (.tuple [.bool b, .bool f])), some (.fz (.str u)), some (.fz (.str v)), x3, x4]) ∧ (u.take j).all (fun x => u.all fun y => decide (farZ b f u x y = farZ b f v x y)) = true) ⟨⟨_, _, rfl⟩, rfl⟩ (fun j c ε hc hI => ?_) (fun ε hI => ?_)
    · obtain ⟨⟨x3, x4, rfl⟩, hall⟩ := hI
      have hcu : c ∈ u := List.mem_of_getElem? hc
      refine ⟨_, rfl, ?_⟩
      have lc : dLc [4] (dItems (dVar 1)) (hName 4) bYes (d2 oNe (dCall 4 F_far (dCons (dVar 0) (dCons (dVar 1) (dCons (dVar 3) (dCons (dVar 4) dNil))))) (dCall 4 F_far (dCons (dVar 0) (dCons (dVar 2) (dCons (dVar 3) (dCons (dVar 4) dNil)))))) [some (.tuple [.bool b, .bool f]), some (.str u), some (.str v), some (.str [c]), x4.map Sl.d] = .ok (.list (u.map fun y => .bool (!decide (farZ b f u c y = farZ b f v c y)))) := by
        unfold dLc
        have e2 : dItems (dVar 1) [some (.tuple [.bool b, .bool f]), some (.str u), some (.str v), some (.str [c]), x4.map Sl.d] = .ok (u.map fun y => .str [y]) := rfl
        rw [e2, Res.ok_bind, need_ok (by rw [List.length_map]; exact b1), compM_map (h := fun d => match d with | .str [y] => .bool (!decide (farZ b f u c y = farZ b f v c y)) | _ => .none)]
        · rw [List.map_map]
          rfl
        · intro d hd
          obtain ⟨y, hy, rfl⟩ := List.mem_map.mp hd
          have hcv : c ∈ v := hp.mem_iff.mp hcu
          have hyv : y ∈ v := hp.mem_iff.mp hy
          have f1 : F_far [.tuple [.bool b, .bool f], .str u, .str [c], .str [y]] = .ok (.int (farZ b f u c y)) := by
            show Res.need _ (if y ∈ u ∧ c ∈ u then _ else _) = _
            rw [need_ok b1, if_pos ⟨hy, hcu⟩]
          have f2 : F_far [.tuple [.bool b, .bool f], .str v, .str [c], .str [y]] = .ok (.int (farZ b f v c y)) := by
            show Res.need _ (if y ∈ v ∧ c ∈ v then _ else _) = _
            rw [need_ok b2, if_pos ⟨hyv, hcv⟩]
          simp [compOne, hName, wipeD, bYes, d2, dCall, dCons, dNil, dVar, f1, f2, oNe, oEqB, imm]
      have ea : u.all (fun y => decide (farZ b f u c y = farZ b f v c y)) = !(u.any fun y => !decide (farZ b f u c y = farZ b f v c y)) := by
        rw [List.not_any_eq_all_not]
        congr 1
        funext y
        simp
      have ca : cAny [.list (u.map fun y => .bool (!decide (farZ b f u c y = farZ b f v c y)))] = .ok (.bool (u.any fun y => !decide (farZ b f u c y = farZ b f v c y))) := cAny_map _ _
      cases hq : u.any (fun y => !decide (farZ b f u c y = farZ b f v c y)) with
      | true =>
        rw [hq] at ca ea
        have hf : alikeB b f u v = false := by
          unfold alikeB
          rw [Bool.and_eq_false_iff]
          right
          rw [← Bool.not_eq_true]
          intro z
          have := List.all_eq_true.mp z c hcu
          rw [ea] at this
          cases this
        simp [gIf, dT, dCons, dNil, view, Sl.d, lc, ca, truth, gRet, dC, ends, hf]
      | false =>
        rw [hq] at ca ea
        simp [gIf, dT, dCons, dNil, view, Sl.d, lc, ca, truth, gNext]
        intro x hx
        rw [take_succ_get hc] at hx
        rcases List.mem_append.mp hx with hx | hx
        · have := List.all_eq_true.mp hall x hx
          simpa using this
        · cases List.mem_singleton.mp hx
          simpa using ea
    · obtain ⟨⟨x3, x4, rfl⟩, hall⟩ := hI
      rw [List.take_length] at hall
      have ht : alikeB b f u v = true := by
        unfold alikeB
        rw [hall, decide_eq_true hp]
        rfl
      simp [gRet, dC, ends, ht]
  · have e1 : sortN u ≠ sortN v := fun z => hp (sortN_eq.mp z)
    have hf : alikeB b f u v = false := by
      unfold alikeB
      rw [decide_eq_false hp]
      rfl
    simp [gSeq, gIf, dB, d2, dVar, dCons, dNil, view, startE, Sl.d, s1, s2, n1, e1, gRet, dC, ends, hf]
abbrev s_are_alike : Stmt := top 9
theorem sc_are_alike : FnScope ["manner", "one", "other", "first", "last"] ["manner", "one", "other"] (defScope s_are_alike) := ⟨rfl, rfl, rfl, by decide +kernel, rfl, by decide +kernel, by decide +kernel⟩
theorem ok_are_alike {f : Addr} {fd : FuncData} (F : Fun K "are_alike" "are_alike" s_are_alike f fd) (c_far : Cal P w K mg base cl 3 "far" 4 F_far) (z_sorted : mg "sorted" = none) (z_any : mg "any" = none) : FnOk P w K mg base (L2.CX P w) 4 f fd ["manner", "one", "other"] (spD K cl 3 F_are_alike) := by
  refine okD F sc_are_alike (by decide) (fun cdv A outer s H E hr => ?_)
  have hu := hu64 hr
  exact ⟨_, g_are_alike, (b_cons (s_if (t_ne hu (QF.qe (q_sorted rfl hu z_sorted (a_cons (q_var 1 (pv 1)) a_nil))) (QF.qe (q_sorted rfl hu z_sorted (a_cons (q_var 2 (pv 2)) a_nil)))) (b_one (s_ret q_bl)) b_nil)
      (b_cons (s_forN (i := 1) (passes_of rfl) rfl (pv 1) (g_name (i := 3) sc_are_alike.nd rfl (by first | exact Or.inl rfl | exact Or.inr rfl)) (b_one (s_if (t_val (QF.qe (q_any rfl z_any (a_cons (QF.qe (q_lc (own := [("last", 4)]) rfl sc_are_alike.nd (j_any (q_var 1 (pv 1))) (blkOk_by (N := ["manner", "one", "other", "first", "last"]) (sc := defScope s_are_alike) (by decide +kernel)) (fun _ _ _ _ _ => ⟨_, (h_name (i := 4) sc_are_alike.nd rfl (by first | exact Or.inl rfl | exact Or.inr rfl) (by decide))⟩) (fun _ _ _ _ _ => ⟨_, ts_nil⟩) (fun _ _ _ _ _ => ⟨_, (QF.qe (q_ne hu (QF.qe (q_fn c_far (hr.mono (by decide)) takes0 (a_cons (q_var 0 (pv 0)) (a_cons (q_var 1 (pv 1)) (a_cons (q_var 3 (pv 3)) (a_cons (q_var 4 (pv 4)) a_nil)))))) (QF.qe (q_fn c_far (hr.mono (by decide)) takes0 (a_cons (q_var 0 (pv 0)) (a_cons (q_var 2 (pv 2)) (a_cons (q_var 3 (pv 3)) (a_cons (q_var 4 (pv 4)) a_nil))))))))⟩))) a_nil)))) (b_one (s_ret q_bl)) b_nil)))
      (b_one (s_ret q_bl)))), fun ds hl hne => rd_are_alike hl hne⟩
def g_law : DS :=
  (gSeq (gFor (fun δ => ((dCons (dC (.int 12)) dNil) δ).bind iR1) (kName 1)
      (gSeq (gSet 2 (d2 oAdd (dCall 2 F_law_cell (dCons (dVar 0) (dCons (d2 oMod (dVar 1) (dC (.int 9))) dNil))) (d2 oMul (dC (.int 31)) (dVar 1))))
    (gSeq (gPar 3 4 false false (dCall 2 F_law_wheel (dCons (dVar 2) (dCons (dC (.int 8)) dNil))) (d2 oEq (dCall 3 F_law_mix (dCons (dVar 2) (dCons (dC (.int 9887)) (dCons (dC (.int 2)) dNil)))) (dC (.int 0))))
    (gSeq (gIf (bNot (dT (dCall 2 F_law_are_ways (dCons (dVar 3) (dCons (dVar 4) dNil))))) (gRet (dC (.bool false))) gNext)
    (gSeq (gPar 5 6 false false (d2 oIx (dVar 3) (dCall 3 F_law_mix (dCons (dVar 2) (dCons (dC (.int 9883)) (dCons (fun δ => ((dCons (dVar 3) dNil) δ).bind cLen) dNil))))) (d2 oIx (dVar 3) (dCall 3 F_law_mix (dCons (dVar 2) (dCons (dC (.int 9871)) (dCons (fun δ => ((dCons (dVar 3) dNil) δ).bind cLen) dNil))))))
    (gSeq (gPar 7 8 false false (dCall 2 F_turned (dCons (dVar 3) (dCons (dVar 5) dNil))) (dCall 1 F_mirrored (dCons (dVar 3) dNil)))
    (gSeq (gIf (bOr (dB (d2 oNe (dCall 2 F_place (dCons (dVar 7) (dCons (dVar 5) dNil))) (dC (.int 0)))) (dB (d2 oNe (dCall 2 F_turned (dCons (dVar 7) (dCons (d2 oIx (dVar 3) (dC (.int 0))) dNil))) (dVar 3)))) (gRet (dC (.bool false))) gNext)
    (gSeq (gIf (dB (d2 oNe (dCall 2 F_turned (dCons (dVar 7) (dCons (dVar 6) dNil))) (dCall 2 F_turned (dCons (dVar 3) (dCons (dVar 6) dNil))))) (gRet (dC (.bool false))) gNext)
    (gSeq (gIf (bOr (dB (d2 oNe (dCall 1 F_mirrored (dCons (dVar 8) dNil)) (dVar 3))) (bOr (dB (d2 oNe (d2 oIx (dVar 8) (dC (.int 0))) (d2 oIx (dVar 3) (dC (.int 0))))) (dB (d2 oNe (fun δ => ((dCons (dVar 8) dNil) δ).bind cSorted) (fun δ => ((dCons (dVar 3) dNil) δ).bind cSorted))))) (gRet (dC (.bool false))) gNext)
    (gFor (fun δ => ((dTup (dCons (dC (.bool false)) (dCons (dC (.bool true)) dNil))) δ).bind itemsF) (kName 9)
      (gSeq (gSet 10 (dTup (dCons (dVar 9) (dCons (dVar 4) dNil))))
    (gSeq (gIf (bOr (bNot (dT (dCall 3 F_are_alike (dCons (dVar 10) (dCons (dVar 3) (dCons (dVar 7) dNil)))))) (bAnd (dT (dVar 9)) (bNot (dT (dCall 3 F_are_alike (dCons (dVar 10) (dCons (dVar 3) (dCons (dVar 8) dNil)))))))) (gRet (dC (.bool false))) gNext)
    (gSeq (gIf (dB (d2 oNe (dCall 3 F_are_alike (dCons (dVar 10) (dCons (dVar 3) (dCons (dVar 8) dNil)))) (dOrV (dVar 9) (d2 oLt (fun δ => ((dCons (dVar 3) dNil) δ).bind cLen) (dC (.int 3)))))) (gRet (dC (.bool false))) gNext)
    (gForN 3 (kName 11)
      (gSeq (gIf (dB (d2 oNe (dCall 4 F_far (dCons (dVar 10) (dCons (dVar 7) (dCons (dVar 5) (dCons (dVar 11) dNil))))) (dCall 4 F_far (dCons (dVar 10) (dCons (dVar 3) (dCons (dVar 5) (dCons (dVar 11) dNil))))))) (gRet (dC (.bool false))) gNext)
    (gIf (dB (d2 oNe (dCall 4 F_far (dCons (dVar 10) (dCons (dVar 8) (dCons (dVar 5) (dCons (dVar 11) dNil))))) (dCall 4 F_far (dCons (dVar 10) (dCons (dVar 3) (dCons (dVar 11) (dCons (dVar 5) dNil))))))) (gRet (dC (.bool false))) gNext))))))))))))))))
    (gRet (dC (.bool true))))
theorem rd_law {ds : List D} (hl : ds.length = 1) (hne : F_law ds ≠ .stuck) : g_law (ends (F_law ds)) (startE 12 ds) := by
  unfold g_law
  obtain ⟨ns, rfl⟩ := sh_law hne
  have eF : F_law [.scr ns] = .ok (.bool true) := rfl
  rw [eF]
  refine sq_rng 0 12 (by simp [view, startE, mk, d2, dVar, dC, dB, dT, bAnd, bOr, bNot, dIf, dAndV, dOrV, dNotV, dCons, dNil, dTup, dLst, dCall, dM, dSl, dPt, dNoP, oEq, oNe, oIn, oNi, Res.need, dChain, dItems, big]) (fun j ε => ∃ x1 x2 x3 x4 x5 x6 x7 x8 x9 x10 x11, ε = [some (.fz (.scr ns)), x1, x2, x3, x4, x5, x6, x7, x8, x9, x10, x11]) ⟨_, _, _, _, _, _, _, _, _, _, _, rfl⟩ (fun j ε hj hI => ?_) (fun ε hI => ?_)
  · obtain ⟨x1, x2, x3, x4, x5, x6, x7, x8, x9, x10, x11, rfl⟩ := hI
    refine ⟨_, rfl, ?_⟩
    have c1 : F_law_cell [.scr ns, .int ((j : Int) % 9)] = .ok (.int (ns.getD ((j : Int) % 9).toNat 0)) := need_ok (Int.emod_nonneg _ (by decide)) _
    have k1 : smallI 31 ∨ smallI (j : Int) := Or.inl (by unfold smallI; decide)
    refine sq_set (.int (ns.getD ((j : Int) % 9).toNat 0 + 31 * (j : Int))) (by simp [view, startE, mk, d2, dVar, dC, dB, dT, bAnd, bOr, bNot, dIf, dAndV, dOrV, dNotV, dCons, dNil, dTup, dLst, dCall, dM, dSl, dPt, dNoP, oEq, oNe, oIn, oNi, Res.need, dChain, dItems, big, c1, k1]) (by simp) rfl ?_
    generalize ns.getD ((j : Int) % 9).toNat 0 + 31 * (j : Int) = cell
    have hw := wheel_ok (c := cell) (most := 8) (by decide)
    have w1 : F_law_wheel [.int cell, .int 8] = .ok (.str (wheelL cell 8)) := need_ok (by decide) _
    have m1 : F_law_mix [.int cell, .int 9887, .int 2] = .ok (.int (mixZ cell 9887 2)) := mix_ok (by decide) (by decide) (by decide)
    refine sq_par false false (.str (wheelL cell 8)) (.bool (decide (mixZ cell 9887 2 = 0))) (by simp [view, startE, mk, d2, dVar, dC, dB, dT, bAnd, bOr, bNot, dIf, dAndV, dOrV, dNotV, dCons, dNil, dTup, dLst, dCall, dM, dSl, dPt, dNoP, oEq, oNe, oIn, oNi, Res.need, dChain, dItems, big, w1]) (by simp [view, startE, mk, d2, dVar, dC, dB, dT, bAnd, bOr, bNot, dIf, dAndV, dOrV, dNotV, dCons, dNil, dTup, dLst, dCall, dM, dSl, dPt, dNoP, oEq, oNe, oIn, oNi, Res.need, dChain, dItems, big, m1]) (by simp) (by simp) ⟨rfl, fun z => by cases z⟩ ⟨rfl, fun z => by cases z⟩ ?_
    generalize decide (mixZ cell 9887 2 = 0) = f
    clear w1 m1
    generalize wheelL cell 8 = w at hw
    have hnd := hw.nd
    have h8 := hw.le
    have hp : (0 : Int) < ((w.length : Nat) : Int) := by have := hw.pos; omega
    have hb : w.length ≤ 1000000 := by omega
    have hk : w.length ≤ 1000 := by omega
    have hsg : ∀ c ∈ w, c < 0x110000 := fun c hc => by have := hw.lt c hc; omega
    have a1 : F_law_are_ways [.str w, .bool f] = .ok (.bool true) := need_ok ⟨hw.nd, hw.pos, hw.le⟩ _
    refine sq_no (by simp [view, startE, mk, d2, dVar, dC, dB, dT, bAnd, bOr, bNot, dIf, dAndV, dOrV, dNotV, dCons, dNil, dTup, dLst, dCall, dM, dSl, dPt, dNoP, oEq, oNe, oIn, oNi, Res.need, dChain, dItems, big, a1]) ?_
    obtain ⟨a, ha, ea⟩ := wheel_at (mix_lo cell 9883 hp) (mix_hi cell 9883 hp)
    obtain ⟨o, ho, eo⟩ := wheel_at (mix_lo cell 9871 hp) (mix_hi cell 9871 hp)
    have m2 : F_law_mix [.int cell, .int 9883, .int (w.length : Nat)] = .ok (.int (mixZ cell 9883 (w.length : Nat))) := mix_ok (by decide) (by decide) hp
    have m3 : F_law_mix [.int cell, .int 9871, .int (w.length : Nat)] = .ok (.int (mixZ cell 9871 (w.length : Nat))) := mix_ok (by decide) (by decide) hp
    refine sq_par false false (.str [a]) (.str [o]) (by simp [view, startE, mk, d2, dVar, dC, dB, dT, bAnd, bOr, bNot, dIf, dAndV, dOrV, dNotV, dCons, dNil, dTup, dLst, dCall, dM, dSl, dPt, dNoP, oEq, oNe, oIn, oNi, Res.need, dChain, dItems, big, m2, ea, hb]) (by simp [view, startE, mk, d2, dVar, dC, dB, dT, bAnd, bOr, bNot, dIf, dAndV, dOrV, dNotV, dCons, dNil, dTup, dLst, dCall, dM, dSl, dPt, dNoP, oEq, oNe, oIn, oNi, Res.need, dChain, dItems, big, m3, eo, hb]) (by simp) (by simp) ⟨rfl, fun z => by cases z⟩ ⟨rfl, fun z => by cases z⟩ ?_
    clear m2 m3 ea eo
    have t1 := turn_ok hk ha
    have i1 := mir_ok hk
    refine sq_par false false (.str (turnL w a)) (.str (mirL w)) (by simp [view, startE, mk, d2, dVar, dC, dB, dT, bAnd, bOr, bNot, dIf, dAndV, dOrV, dNotV, dCons, dNil, dTup, dLst, dCall, dM, dSl, dPt, dNoP, oEq, oNe, oIn, oNi, Res.need, dChain, dItems, big, t1]) (by simp [view, startE, mk, d2, dVar, dC, dB, dT, bAnd, bOr, bNot, dIf, dAndV, dOrV, dNotV, dCons, dNil, dTup, dLst, dCall, dM, dSl, dPt, dNoP, oEq, oNe, oIn, oNi, Res.need, dChain, dItems, big, i1]) (by simp) (by simp) ⟨rfl, fun z => by cases z⟩ ⟨rfl, fun z => by cases z⟩ ?_
    obtain ⟨z, hz, z1, z2, z3⟩ := first_of hw.pos
    have tm : ∀ c, c ∈ w → c ∈ turnL w a := fun c hc => (turn_perm w a).mem_iff.mpr hc
    have mm : ∀ c, c ∈ w → c ∈ mirL w := fun c hc => (mir_perm w).mem_iff.mpr hc
    have tl : (turnL w a).length ≤ 1000 := by rw [turn_len]; exact hk
    have ml : (mirL w).length ≤ 1000 := by rw [mir_len]; exact hk
    have tl' : (turnL w a).length ≤ 1000000 := by omega
    have ml' : (mirL w).length ≤ 1000000 := by omega
    have tsg : ∀ c ∈ turnL w a, c < 0x110000 := fun c hc => hsg c ((turn_perm w a).mem_iff.mp hc)
    have msg : ∀ c ∈ mirL w, c < 0x110000 := fun c hc => hsg c ((mir_perm w).mem_iff.mp hc)
    have p1 : F_place [.str (turnL w a), .str [a]] = .ok (.int 0) := by rw [place_ok (tm a ha), turn_place hnd ha]; rfl
    have t2 : F_turned [.str (turnL w a), .str [z]] = .ok (.str w) := by rw [turn_ok tl (tm z hz), turn_turn hnd ha hz, z2]
    have t3 : F_turned [.str (turnL w a), .str [o]] = .ok (.str (turnL w o)) := by rw [turn_ok tl (tm o ho), turn_turn hnd ha ho]
    have t4 := turn_ok hk ho
    have i2 : F_mirrored [.str (mirL w)] = .ok (.str w) := by rw [mir_ok ml, mir_mir]
    have s1 := cSorted_str hsg hb
    have s2 := cSorted_str msg ml'
    have n1 := eqB_signs (l := sortN (mirL w)) (m := sortN w) (fun c hc => msg c (sortN_mem hc)) (fun c hc => hsg c (sortN_mem hc))
    rw [decide_eq_true (sortN_eq.mpr (mir_perm w))] at n1
    refine sq_no (by simp [view, startE, mk, d2, dVar, dC, dB, dT, bAnd, bOr, bNot, dIf, dAndV, dOrV, dNotV, dCons, dNil, dTup, dLst, dCall, dM, dSl, dPt, dNoP, oEq, oNe, oIn, oNi, Res.need, dChain, dItems, big, p1, t2, z1, hb]) (sq_no (by simp [view, startE, mk, d2, dVar, dC, dB, dT, bAnd, bOr, bNot, dIf, dAndV, dOrV, dNotV, dCons, dNil, dTup, dLst, dCall, dM, dSl, dPt, dNoP, oEq, oNe, oIn, oNi, Res.need, dChain, dItems, big, t3, t4]) (sq_no (by simp [view, startE, mk, d2, dVar, dC, dB, dT, bAnd, bOr, bNot, dIf, dAndV, dOrV, dNotV, dCons, dNil, dTup, dLst, dCall, dM, dSl, dPt, dNoP, oEq, oNe, oIn, oNi, Res.need, dChain, dItems, big, i2, z1, z3, hb, ml', s1, s2, n1, -oEqB_ll]) ?_))
    refine for_any (xs := [.bool false, .bool true]) (by simp [view, startE, mk, d2, dVar, dC, dB, dT, bAnd, bOr, bNot, dIf, dAndV, dOrV, dNotV, dCons, dNil, dTup, dLst, dCall, dM, dSl, dPt, dNoP, oEq, oNe, oIn, oNi, Res.need, dChain, dItems, big]) (fun _ => (fun ε => ∃ x9 x10 x11, ε = [some (.fz (.scr ns)), some (.fz (.int (0 + (j : Int)))), some (.fz (.int cell)), some (.fz (.str w)), some (.fz (.bool f)), some (.fz (.str [a])), some (.fz (.str [o])), some (.fz (.str (turnL w a))), some (.fz (.str (mirL w))), x9, x10, x11])) ⟨_, _, _, rfl⟩ (fun jj x ε hx hI => ?_) (fun ε hI => ?_)
    · obtain ⟨x9, x10, x11, rfl⟩ := hI
      have hx' : ∃ b, x = .bool b := by
        match jj, hx with
        | 0, hx => cases hx; exact ⟨false, rfl⟩
        | 1, hx => cases hx; exact ⟨true, rfl⟩
      obtain ⟨b, rfl⟩ := hx'
      refine ⟨rfl, _, rfl, ?_⟩
      have q1 := alike_ok (b := b) (f := f) hk tl hsg tsg
      have q2 := alike_ok (b := b) (f := f) hk ml hsg msg
      rw [turn_alike hnd ha] at q1
      rw [mir_alike hnd b f] at q2
      refine sq_set (.tuple [.bool b, .bool f]) (by simp [view, startE, mk, d2, dVar, dC, dB, dT, bAnd, bOr, bNot, dIf, dAndV, dOrV, dNotV, dCons, dNil, dTup, dLst, dCall, dM, dSl, dPt, dNoP, oEq, oNe, oIn, oNi, Res.need, dChain, dItems, big]) (by simp) rfl ?_
      refine sq_no (by cases b <;> simp [view, startE, mk, d2, dVar, dC, dB, dT, bAnd, bOr, bNot, dIf, dAndV, dOrV, dNotV, dCons, dNil, dTup, dLst, dCall, dM, dSl, dPt, dNoP, oEq, oNe, oIn, oNi, Res.need, dChain, dItems, big, q1, q2]) (sq_no (by cases b <;> simp [view, startE, mk, d2, dVar, dC, dB, dT, bAnd, bOr, bNot, dIf, dAndV, dOrV, dNotV, dCons, dNil, dTup, dLst, dCall, dM, dSl, dPt, dNoP, oEq, oNe, oIn, oNi, Res.need, dChain, dItems, big, q2, hb] <;> omega) ?_)
      refine for_strA (i := 3) (w := w) rfl (fun ε => ∃ x11, ε = [some (.fz (.scr ns)), some (.fz (.int (0 + (j : Int)))), some (.fz (.int cell)), some (.fz (.str w)), some (.fz (.bool f)), some (.fz (.str [a])), some (.fz (.str [o])), some (.fz (.str (turnL w a))), some (.fz (.str (mirL w))), some (.fz (.bool b)), some (.fz (.tuple [.bool b, .bool f])), x11]) ⟨_, rfl⟩ (fun c ε hc hI => ?_) (fun ε hI => ?_)
      · obtain ⟨x11, rfl⟩ := hI
        refine ⟨_, rfl, ?_⟩
        have g1 := far_ok (b := b) (f := f) tl' (tm a ha) (tm c hc)
        have g2 := far_ok (b := b) (f := f) hb ha hc
        have g3 := far_ok (b := b) (f := f) ml' (mm a ha) (mm c hc)
        have g4 := far_ok (b := b) (f := f) hb hc ha
        rw [turn_far hnd ha ha hc] at g1
        rw [mir_far hnd ha hc] at g3
        refine sq_no (by simp [view, startE, mk, d2, dVar, dC, dB, dT, bAnd, bOr, bNot, dIf, dAndV, dOrV, dNotV, dCons, dNil, dTup, dLst, dCall, dM, dSl, dPt, dNoP, oEq, oNe, oIn, oNi, Res.need, dChain, dItems, big, g1, g2]) (st_no (by simp [view, startE, mk, d2, dVar, dC, dB, dT, bAnd, bOr, bNot, dIf, dAndV, dOrV, dNotV, dCons, dNil, dTup, dLst, dCall, dM, dSl, dPt, dNoP, oEq, oNe, oIn, oNi, Res.need, dChain, dItems, big, g3, g4]) ⟨_, rfl⟩)
      · obtain ⟨x11, rfl⟩ := hI
        exact ⟨_, _, _, rfl⟩
    · obtain ⟨x9, x10, x11, rfl⟩ := hI
      exact ⟨_, _, _, _, _, _, _, _, _, _, _, rfl⟩
  · obtain ⟨x1, x2, x3, x4, x5, x6, x7, x8, x9, x10, x11, rfl⟩ := hI
    exact st_ret (.bool true) rfl rfl
abbrev s_law : Stmt := top 15
theorem sc_law : FnScope ["script", "k", "cell", "wheel", "is_full", "one", "other", "round_one", "glass", "is_both", "manner", "letter"] ["script"] (defScope s_law) := ⟨rfl, rfl, rfl, by decide +kernel, rfl, by decide +kernel, by decide +kernel⟩
theorem ok_law {f : Addr} {fd : FuncData} (F : Fun K "law" "law" s_law f fd) (c_law_cell : Cal P w K mg base cl 1 "_law_cell" 2 F_law_cell) (c_law_wheel : Cal P w K mg base cl 2 "_law_wheel" 2 F_law_wheel) (c_law_are_ways : Cal P w K mg base cl 4 "_law_are_ways" 2 F_law_are_ways) (c_turned : Cal P w K mg base cl 2 "turned" 2 F_turned) (c_mirrored : Cal P w K mg base cl 1 "mirrored" 1 F_mirrored) (c_law_mix : Cal P w K mg base cl 1 "_law_mix" 3 F_law_mix) (c_place : Cal P w K mg base cl 1 "place" 2 F_place) (c_are_alike : Cal P w K mg base cl 4 "are_alike" 3 F_are_alike) (c_far : Cal P w K mg base cl 3 "far" 4 F_far) (z_range : mg "range" = none) (z_sorted : mg "sorted" = none) (z_len : mg "len" = none) : FnOk P w K mg base CX0 5 f fd ["script"] (spD K cl 1 F_law) := by
  refine okD0 F sc_law (by decide) ne_law (fun cdv A outer s H E hr => ?_)
  have hu := hu64 hr
  exact ⟨_, g_law, (b_cons (s_for PassesOwn.never rfl (i_range1 z_range (a_cons (QF.qe q_int) a_nil)) (g_name (i := 1) sc_law.nd rfl (by first | exact Or.inl rfl | exact Or.inr rfl)) (b_cons (s_set (i := 2) (q_add (QF.qe (q_fn c_law_cell (hr.mono (by decide)) takes0 (a_cons (q_var 0 (pv 0)) (a_cons (QF.qe (q_mod (q_var 1 (pv 1)) (QF.qe q_int))) a_nil)))) (QF.qe (q_mul (QF.qe q_int) (q_var 1 (pv 1))))) sc_law.nd rfl (by first | exact Or.inl rfl | exact Or.inr rfl))
      (b_cons (s_par (i := 3) (j := 4) false false (q_fn c_law_wheel (hr.mono (by decide)) takes0 (a_cons (q_var 2 (pv 2)) (a_cons (QF.qe q_int) a_nil))) (q_eq hu (QF.qe (q_fn c_law_mix (hr.mono (by decide)) takes0 (a_cons (q_var 2 (pv 2)) (a_cons (QF.qe q_int) (a_cons (QF.qe q_int) a_nil))))) (QF.qe q_int)) rfl sc_law.nd rfl rfl (by decide) rfl rfl rfl)
      (b_cons (s_if (t_not (t_val (QF.qe (q_fn c_law_are_ways (hr.mono (by decide)) takes0 (a_cons (q_var 3 (pv 3)) (a_cons (q_var 4 (pv 4)) a_nil)))))) (b_one (s_ret q_bl)) b_nil)
      (b_cons (s_par (i := 5) (j := 6) false false (q_sub_ (q_var 3 (pv 3)) (QF.qe (q_fn c_law_mix (hr.mono (by decide)) takes0 (a_cons (q_var 2 (pv 2)) (a_cons (QF.qe q_int) (a_cons (QF.qe (q_len z_len (a_cons (q_var 3 (pv 3)) a_nil))) a_nil)))))) (q_sub_ (q_var 3 (pv 3)) (QF.qe (q_fn c_law_mix (hr.mono (by decide)) takes0 (a_cons (q_var 2 (pv 2)) (a_cons (QF.qe q_int) (a_cons (QF.qe (q_len z_len (a_cons (q_var 3 (pv 3)) a_nil))) a_nil)))))) rfl sc_law.nd rfl rfl (by decide) rfl rfl rfl)
      (b_cons (s_par (i := 7) (j := 8) false false (q_fn c_turned (hr.mono (by decide)) takes0 (a_cons (q_var 3 (pv 3)) (a_cons (q_var 5 (pv 5)) a_nil))) (q_fn c_mirrored (hr.mono (by decide)) takes0 (a_cons (q_var 3 (pv 3)) a_nil)) rfl sc_law.nd rfl rfl (by decide) rfl rfl rfl)
      (b_cons (s_if (QW.qt (w_or (t_ne hu (QF.qe (q_fn c_place (hr.mono (by decide)) takes0 (a_cons (q_var 7 (pv 7)) (a_cons (q_var 5 (pv 5)) a_nil)))) (QF.qe q_int)) (w_or1 (t_ne hu (QF.qe (q_fn c_turned (hr.mono (by decide)) takes0 (a_cons (q_var 7 (pv 7)) (a_cons (QF.qe (q_sub_ (q_var 3 (pv 3)) (QF.qe q_int))) a_nil)))) (q_var 3 (pv 3)))))) (b_one (s_ret q_bl)) b_nil)
      (b_cons (s_if (t_ne hu (QF.qe (q_fn c_turned (hr.mono (by decide)) takes0 (a_cons (q_var 7 (pv 7)) (a_cons (q_var 6 (pv 6)) a_nil)))) (QF.qe (q_fn c_turned (hr.mono (by decide)) takes0 (a_cons (q_var 3 (pv 3)) (a_cons (q_var 6 (pv 6)) a_nil))))) (b_one (s_ret q_bl)) b_nil)
      (b_cons (s_if (QW.qt (w_or (t_ne hu (QF.qe (q_fn c_mirrored (hr.mono (by decide)) takes0 (a_cons (q_var 8 (pv 8)) a_nil))) (q_var 3 (pv 3))) (w_or (t_ne hu (QF.qe (q_sub_ (q_var 8 (pv 8)) (QF.qe q_int))) (QF.qe (q_sub_ (q_var 3 (pv 3)) (QF.qe q_int)))) (w_or1 (t_ne hu (QF.qe (q_sorted rfl hu z_sorted (a_cons (q_var 8 (pv 8)) a_nil))) (QF.qe (q_sorted rfl hu z_sorted (a_cons (q_var 3 (pv 3)) a_nil)))))))) (b_one (s_ret q_bl)) b_nil)
      (b_one (s_for PassesOwn.never rfl (i_any (q_tup (a_cons (QF.qe q_bl) (a_cons (QF.qe q_bl) a_nil)))) (g_name (i := 9) sc_law.nd rfl (by first | exact Or.inl rfl | exact Or.inr rfl)) (b_cons (s_set (i := 10) (q_tup (a_cons (q_var 9 (pv 9)) (a_cons (q_var 4 (pv 4)) a_nil))) sc_law.nd rfl (by first | exact Or.inl rfl | exact Or.inr rfl))
      (b_cons (s_if (QW.qt (w_or (t_not (t_val (QF.qe (q_fn c_are_alike (hr.mono (by decide)) takes0 (a_cons (q_var 10 (pv 10)) (a_cons (q_var 3 (pv 3)) (a_cons (q_var 7 (pv 7)) a_nil))))))) (w_or1 (QW.qt (w_and (t_val (q_var 9 (pv 9))) (w_and1 (t_not (t_val (QF.qe (q_fn c_are_alike (hr.mono (by decide)) takes0 (a_cons (q_var 10 (pv 10)) (a_cons (q_var 3 (pv 3)) (a_cons (q_var 8 (pv 8)) a_nil))))))))))))) (b_one (s_ret q_bl)) b_nil)
      (b_cons (s_if (t_ne hu (QF.qe (q_fn c_are_alike (hr.mono (by decide)) takes0 (a_cons (q_var 10 (pv 10)) (a_cons (q_var 3 (pv 3)) (a_cons (q_var 8 (pv 8)) a_nil))))) (QF.qe (v_or (q_var 9 (pv 9)) (v_one (q_lt (QF.qe (q_len z_len (a_cons (q_var 3 (pv 3)) a_nil))) (QF.qe q_int)))))) (b_one (s_ret q_bl)) b_nil)
      (b_one (s_forN (i := 3) PassesOwn.never rfl (pv 3) (g_name (i := 11) sc_law.nd rfl (by first | exact Or.inl rfl | exact Or.inr rfl)) (b_cons (s_if (t_ne hu (QF.qe (q_fn c_far (hr.mono (by decide)) takes0 (a_cons (q_var 10 (pv 10)) (a_cons (q_var 7 (pv 7)) (a_cons (q_var 5 (pv 5)) (a_cons (q_var 11 (pv 11)) a_nil)))))) (QF.qe (q_fn c_far (hr.mono (by decide)) takes0 (a_cons (q_var 10 (pv 10)) (a_cons (q_var 3 (pv 3)) (a_cons (q_var 5 (pv 5)) (a_cons (q_var 11 (pv 11)) a_nil))))))) (b_one (s_ret q_bl)) b_nil)
      (b_one (s_if (t_ne hu (QF.qe (q_fn c_far (hr.mono (by decide)) takes0 (a_cons (q_var 10 (pv 10)) (a_cons (q_var 8 (pv 8)) (a_cons (q_var 5 (pv 5)) (a_cons (q_var 11 (pv 11)) a_nil)))))) (QF.qe (q_fn c_far (hr.mono (by decide)) takes0 (a_cons (q_var 10 (pv 10)) (a_cons (q_var 3 (pv 3)) (a_cons (q_var 11 (pv 11)) (a_cons (q_var 5 (pv 5)) a_nil))))))) (b_one (s_ret q_bl)) b_nil)))))))))))))))))))
      (b_one (s_ret q_bl))), fun ds hl hne => rd_law hl hne⟩
end
theorem spD_cl {K : Fg} {cl cl2 : Nat → Addr} {n : Nat} {F : List D → Res D} (h : ∀ ds c, F ds ≠ .exc c) : spD K cl n F = spD K cl2 n F := by
  funext vs H Q E
  refine propext ⟨fun z => ?_, fun z => ?_⟩ <;> obtain ⟨ds, h1, h2, h3⟩ := z <;> refine ⟨ds, h1, h2, ?_⟩ <;> (cases e : F ds with
    | ok d => rw [e] at h3; exact h3
    | exc c => exact absurd e (h ds c)
    | stuck => rw [e] at h3; exact h3)
def spLaw (K : Fg) : Sp := spD K (fun _ => 0) 1 F_law
theorem law_sp {K : Fg} {H : Hp} {a : Addr} {ns : List Int} (hS : SqL K H a (ns.map V.int)) : spLaw K [.ref a] H (fun v _ => v = .bl true) fun _ _ _ => False := by
  refine ⟨[.scr ns], ?_, rfl, ?_⟩
  · unfold RpAll Rp RpAll
    exact ⟨_, _, rfl, ⟨a, rfl, hS⟩, rfl⟩
  · intro v H' _ hR _
    unfold Rp at hR
    exact hR
theorem all_mk {P : Program} {w : World} {K : Fg} {h : Heap} {mg : Str → Option Value} {fa : Addr} {CNoLetter : Addr} {f0 : Addr} {od0 an0 : Option Addr} {sl0 : Array (Option Value)} {oc0 kV0 dc0 pm0 cd0 ct0 : Value} {f1 : Addr} {od1 an1 : Option Addr} {sl1 : Array (Option Value)} {oc1 kV1 dc1 pm1 cd1 ct1 : Value} {f2 : Addr} {od2 an2 : Option Addr} {sl2 : Array (Option Value)} {oc2 kV2 dc2 pm2 cd2 ct2 : Value} {f3 : Addr} {od3 an3 : Option Addr} {sl3 : Array (Option Value)} {oc3 kV3 dc3 pm3 cd3 ct3 : Value} {f4 : Addr} {od4 an4 : Option Addr} {sl4 : Array (Option Value)} {oc4 kV4 dc4 pm4 cd4 ct4 : Value} {f5 : Addr} {od5 an5 : Option Addr} {sl5 : Array (Option Value)} {oc5 kV5 dc5 pm5 cd5 ct5 : Value} {f6 : Addr} {od6 an6 : Option Addr} {sl6 : Array (Option Value)} {oc6 kV6 dc6 pm6 cd6 ct6 : Value} {f7 : Addr} {od7 an7 : Option Addr} {sl7 : Array (Option Value)} {oc7 kV7 dc7 pm7 cd7 ct7 : Value} {f8 : Addr} {od8 an8 : Option Addr} {sl8 : Array (Option Value)} {oc8 kV8 dc8 pm8 cd8 ct8 : Value} {f9 : Addr} {od9 an9 : Option Addr} {sl9 : Array (Option Value)} {oc9 kV9 dc9 pm9 cd9 ct9 : Value} {f10 : Addr} {od10 an10 : Option Addr} {sl10 : Array (Option Value)} {oc10 kV10 dc10 pm10 cd10 ct10 : Value} (X : K.In h) (G : h.Ns mainGlobals mg) (hfa : mg "law" = some (.ref fa))
    (gNoLetter : PySem.W.nsIn K mainGlobals "NoLetter" = some (some (.ref CNoLetter)))
    (xNoLetter : PySem.W.excIn K CNoLetter [.type "ValueError", .type "Exception", .type "BaseException", .type "object"] "ValueError.__new__" = true)
    (kNoLetter : PySem.W.keepIn K (.ref CNoLetter) = true)
    (bNoLetter : PySem.W.subIn K (.ref CNoLetter) (.type "BaseException") = some true)
    (tNoLetter : PySem.W.typeIn K (.ref CNoLetter) = some (.type "type"))
    (a0 : PySem.W.nsIn K mainGlobals "_law_cell" = some (some (.ref f0)))
    (l0 : K.lookup f0 = some ⟨oc0, od0, .func (PySem.W.fnOf "_law_cell" "_law_cell" (defArgs s_law_cell) (defBody s_law_cell) (defScope s_law_cell) .none kV0 dc0 pm0 an0 cd0 ct0), sl0⟩)
    (c0 : PySem.W.codeIn K cd0 "_law_cell" = true)
    (k0 : PySem.W.keepIn K (.ref f0) = true)
    (a1 : PySem.W.nsIn K mainGlobals "_law_mix" = some (some (.ref f1)))
    (l1 : K.lookup f1 = some ⟨oc1, od1, .func (PySem.W.fnOf "_law_mix" "_law_mix" (defArgs s_law_mix) (defBody s_law_mix) (defScope s_law_mix) .none kV1 dc1 pm1 an1 cd1 ct1), sl1⟩)
    (c1 : PySem.W.codeIn K cd1 "_law_mix" = true)
    (k1 : PySem.W.keepIn K (.ref f1) = true)
    (a2 : PySem.W.nsIn K mainGlobals "_law_wheel" = some (some (.ref f2)))
    (l2 : K.lookup f2 = some ⟨oc2, od2, .func (PySem.W.fnOf "_law_wheel" "_law_wheel" (defArgs s_law_wheel) (defBody s_law_wheel) (defScope s_law_wheel) .none kV2 dc2 pm2 an2 cd2 ct2), sl2⟩)
    (c2 : PySem.W.codeIn K cd2 "_law_wheel" = true)
    (k2 : PySem.W.keepIn K (.ref f2) = true)
    (a3 : PySem.W.nsIn K mainGlobals "place" = some (some (.ref f3)))
    (l3 : K.lookup f3 = some ⟨oc3, od3, .func (PySem.W.fnOf "place" "place" (defArgs s_place) (defBody s_place) (defScope s_place) .none kV3 dc3 pm3 an3 cd3 ct3), sl3⟩)
    (c3 : PySem.W.codeIn K cd3 "place" = true)
    (k3 : PySem.W.keepIn K (.ref f3) = true)
    (a4 : PySem.W.nsIn K mainGlobals "way" = some (some (.ref f4)))
    (l4 : K.lookup f4 = some ⟨oc4, od4, .func (PySem.W.fnOf "way" "way" (defArgs s_way) (defBody s_way) (defScope s_way) .none kV4 dc4 pm4 an4 cd4 ct4), sl4⟩)
    (c4 : PySem.W.codeIn K cd4 "way" = true)
    (k4 : PySem.W.keepIn K (.ref f4) = true)
    (a5 : PySem.W.nsIn K mainGlobals "far" = some (some (.ref f5)))
    (l5 : K.lookup f5 = some ⟨oc5, od5, .func (PySem.W.fnOf "far" "far" (defArgs s_far) (defBody s_far) (defScope s_far) .none kV5 dc5 pm5 an5 cd5 ct5), sl5⟩)
    (c5 : PySem.W.codeIn K cd5 "far" = true)
    (k5 : PySem.W.keepIn K (.ref f5) = true)
    (a6 : PySem.W.nsIn K mainGlobals "_law_are_ways" = some (some (.ref f6)))
    (l6 : K.lookup f6 = some ⟨oc6, od6, .func (PySem.W.fnOf "_law_are_ways" "_law_are_ways" (defArgs s_law_are_ways) (defBody s_law_are_ways) (defScope s_law_are_ways) .none kV6 dc6 pm6 an6 cd6 ct6), sl6⟩)
    (c6 : PySem.W.codeIn K cd6 "_law_are_ways" = true)
    (k6 : PySem.W.keepIn K (.ref f6) = true)
    (a7 : PySem.W.nsIn K mainGlobals "turned" = some (some (.ref f7)))
    (l7 : K.lookup f7 = some ⟨oc7, od7, .func (PySem.W.fnOf "turned" "turned" (defArgs s_turned) (defBody s_turned) (defScope s_turned) .none kV7 dc7 pm7 an7 cd7 ct7), sl7⟩)
    (c7 : PySem.W.codeIn K cd7 "turned" = true)
    (k7 : PySem.W.keepIn K (.ref f7) = true)
    (a8 : PySem.W.nsIn K mainGlobals "mirrored" = some (some (.ref f8)))
    (l8 : K.lookup f8 = some ⟨oc8, od8, .func (PySem.W.fnOf "mirrored" "mirrored" (defArgs s_mirrored) (defBody s_mirrored) (defScope s_mirrored) .none kV8 dc8 pm8 an8 cd8 ct8), sl8⟩)
    (c8 : PySem.W.codeIn K cd8 "mirrored" = true)
    (k8 : PySem.W.keepIn K (.ref f8) = true)
    (a9 : PySem.W.nsIn K mainGlobals "are_alike" = some (some (.ref f9)))
    (l9 : K.lookup f9 = some ⟨oc9, od9, .func (PySem.W.fnOf "are_alike" "are_alike" (defArgs s_are_alike) (defBody s_are_alike) (defScope s_are_alike) .none kV9 dc9 pm9 an9 cd9 ct9), sl9⟩)
    (c9 : PySem.W.codeIn K cd9 "are_alike" = true)
    (k9 : PySem.W.keepIn K (.ref f9) = true)
    (a10 : PySem.W.nsIn K mainGlobals "law" = some (some (.ref f10)))
    (l10 : K.lookup f10 = some ⟨oc10, od10, .func (PySem.W.fnOf "law" "law" (defArgs s_law) (defBody s_law) (defScope s_law) .none kV10 dc10 pm10 an10 cd10 ct10), sl10⟩)
    (c10 : PySem.W.codeIn K cd10 "law" = true)
    (k10 : PySem.W.keepIn K (.ref f10) = true)
    (z_len : PySem.W.nsIn K mainGlobals "len" = some none)
    (z_range : PySem.W.nsIn K mainGlobals "range" = some none)
    (z_list : PySem.W.nsIn K mainGlobals "list" = some none)
    (z_min : PySem.W.nsIn K mainGlobals "min" = some none)
    (z_int : PySem.W.nsIn K mainGlobals "int" = some none)
    (z_sorted : PySem.W.nsIn K mainGlobals "sorted" = some none)
    (z_any : PySem.W.nsIn K mainGlobals "any" = some none) :
    ∃ fd : FuncData, (∀ (s : Shared) (v : Value), BindsTo s fd ⟨[v], []⟩ [("script", v)]) ∧ ∀ base : Heap, K.In base → base.Ns mainGlobals mg → FnOk P w K mg base CX0 5 fa fd ["script"] (spLaw K) := by
  have e := hfa.symm.trans (PySem.W.mg_of X G a10)
  cases e
  have z_len := PySem.W.mg_none_of X G z_len
  have z_range := PySem.W.mg_none_of X G z_range
  have z_list := PySem.W.mg_none_of X G z_list
  have z_min := PySem.W.mg_none_of X G z_min
  have z_int := PySem.W.mg_none_of X G z_int
  have z_sorted := PySem.W.mg_none_of X G z_sorted
  have z_any := PySem.W.mg_none_of X G z_any
  let cl : Nat → Addr := fun n => match n with | 0 => CNoLetter | _ => 0
  have x_NoLetter : ExcT K mg "NoLetter" (cl 0) := ⟨PySem.W.mg_of X G gNoLetter, xNoLetter, kNoLetter, bNoLetter, tNoLetter⟩
  refine ⟨PySem.W.fnOf "law" "law" (defArgs s_law) (defBody s_law) (defScope s_law) .none kV10 dc10 pm10 an10 cd10 ct10, fun s v => .of_eq rfl, fun base _ _ => ?_⟩
  have F0 := fun_mk (st := s_law_cell) l0 c0 k0
  have b0 := F0.binds (ps := ["script", "k"]) fun _ _ _ _ _ _ us hl => match us, hl with | [_, _], _ => rfl
  have c_law_cell : Cal P w K mg base cl 1 "_law_cell" 2 F_law_cell := ⟨_, _, _, ok_law_cell F0 z_len, PySem.W.mg_of X G a0, k0, b0⟩
  have F1 := fun_mk (st := s_law_mix) l1 c1 k1
  have b1 := F1.binds (ps := ["cell", "prime", "many"]) fun _ _ _ _ _ _ us hl => match us, hl with | [_, _, _], _ => rfl
  have c_law_mix : Cal P w K mg base cl 1 "_law_mix" 3 F_law_mix := ⟨_, _, _, ok_law_mix F1 , PySem.W.mg_of X G a1, k1, b1⟩
  have F2 := fun_mk (st := s_law_wheel) l2 c2 k2
  have b2 := F2.binds (ps := ["cell", "most"]) fun _ _ _ _ _ _ us hl => match us, hl with | [_, _], _ => rfl
  have c_law_wheel : Cal P w K mg base cl 2 "_law_wheel" 2 F_law_wheel := ⟨_, _, _, ok_law_wheel F2 c_law_mix z_range z_list z_len, PySem.W.mg_of X G a2, k2, b2⟩
  have F3 := fun_mk (st := s_place) l3 c3 k3
  have b3 := F3.binds (ps := ["wheel", "letter"]) fun _ _ _ _ _ _ us hl => match us, hl with | [_, _], _ => rfl
  have c_place : Cal P w K mg base cl 1 "place" 2 F_place := ⟨_, _, _, ok_place F3 x_NoLetter, PySem.W.mg_of X G a3, k3, b3⟩
  have F4 := fun_mk (st := s_way) l4 c4 k4
  have b4 := F4.binds (ps := ["manner", "wheel", "one", "other"]) fun _ _ _ _ _ _ us hl => match us, hl with | [_, _, _, _], _ => rfl
  have c_way : Cal P w K mg base cl 2 "way" 4 F_way := ⟨_, _, _, ok_way F4 c_place z_len z_min, PySem.W.mg_of X G a4, k4, b4⟩
  have F5 := fun_mk (st := s_far) l5 c5 k5
  have b5 := F5.binds (ps := ["manner", "wheel", "one", "other"]) fun _ _ _ _ _ _ us hl => match us, hl with | [_, _, _, _], _ => rfl
  have c_far : Cal P w K mg base cl 3 "far" 4 F_far := ⟨_, _, _, ok_far F5 c_way c_place z_len, PySem.W.mg_of X G a5, k5, b5⟩
  have F6 := fun_mk (st := s_law_are_ways) l6 c6 k6
  have b6 := F6.binds (ps := ["wheel", "is_full"]) fun _ _ _ _ _ _ us hl => match us, hl with | [_, _], _ => rfl
  have c_law_are_ways : Cal P w K mg base cl 4 "_law_are_ways" 2 F_law_are_ways := ⟨_, _, _, ok_law_are_ways F6 c_far z_len z_min z_int, PySem.W.mg_of X G a6, k6, b6⟩
  have F7 := fun_mk (st := s_turned) l7 c7 k7
  have b7 := F7.binds (ps := ["wheel", "letter"]) fun _ _ _ _ _ _ us hl => match us, hl with | [_, _], _ => rfl
  have c_turned : Cal P w K mg base cl 2 "turned" 2 F_turned := ⟨_, _, _, ok_turned F7 c_place, PySem.W.mg_of X G a7, k7, b7⟩
  have F8 := fun_mk (st := s_mirrored) l8 c8 k8
  have b8 := F8.binds (ps := ["wheel"]) fun _ _ _ _ _ _ us hl => match us, hl with | [_], _ => rfl
  have c_mirrored : Cal P w K mg base cl 1 "mirrored" 1 F_mirrored := ⟨_, _, _, ok_mirrored F8 , PySem.W.mg_of X G a8, k8, b8⟩
  have F9 := fun_mk (st := s_are_alike) l9 c9 k9
  have b9 := F9.binds (ps := ["manner", "one", "other"]) fun _ _ _ _ _ _ us hl => match us, hl with | [_, _, _], _ => rfl
  have c_are_alike : Cal P w K mg base cl 4 "are_alike" 3 F_are_alike := ⟨_, _, _, ok_are_alike F9 c_far z_sorted z_any, PySem.W.mg_of X G a9, k9, b9⟩
  have F10 := fun_mk (st := s_law) l10 c10 k10
  have r := ok_law (P := P) (w := w) (mg := mg) (base := base) (cl := cl) F10 c_law_cell c_law_wheel c_law_are_ways c_turned c_mirrored c_law_mix c_place c_are_alike c_far z_range z_sorted z_len
  rw [spD_cl (cl2 := fun _ => 0) ne_law] at r
  exact r
end Lw
open PySem PySem.W PyProof.Rows
set_option maxHeartbeats 0 in
theorem PySem.Challenge.cw_wheelorders_k03_whole_far_holds : PySem.Challenge.rw_wheelorders_k03_whole_far.Holds := by
  w_on; o_law; k_head; (case hw => w_witness2)
  k_fill
  refine L2.walk_of (l := PySem.Challenge.rw_wheelorders_k03_whole_far) (n := 63) (k := 5) (x := "script") (CX := fun _ => L2.CX0) (sp := fun w => Lw.spLaw _) rfl (by decide) rfl ⟨rfl, by decide, by decide⟩ (fun w h Y => PySem.W.kIn_of Y) ?F (fun _ _ a ns hl _ hS => Lw.law_sp hS) (fun _ _ _ _ _ h => h)
  case F =>
    intro w mg fa h KX G hmg
    refine' Lw.all_mk KX G hmg ?gNoLetter ?xNoLetter ?kNoLetter ?bNoLetter ?tNoLetter ?a0 ?l0 ?c0 ?k0 ?a1 ?l1 ?c1 ?k1 ?a2 ?l2 ?c2 ?k2 ?a3 ?l3 ?c3 ?k3 ?a4 ?l4 ?c4 ?k4 ?a5 ?l5 ?c5 ?k5 ?a6 ?l6 ?c6 ?k6 ?a7 ?l7 ?c7 ?k7 ?a8 ?l8 ?c8 ?k8 ?a9 ?l9 ?c9 ?k9 ?a10 ?l10 ?c10 ?k10 ?z_len ?z_range ?z_list ?z_min ?z_int ?z_sorted ?z_any
    (case gNoLetter => k_is)
    (case xNoLetter => k_exc)
    (case kNoLetter => k_is)
    (case bNoLetter => k_is)
    (case tNoLetter => k_is)
    (case a0 => k_is)
    (case l0 => k_is)
    (case c0 => k_is)
    (case k0 => k_is)
    (case a1 => k_is)
    (case l1 => k_is)
    (case c1 => k_is)
    (case k1 => k_is)
    (case a2 => k_is)
    (case l2 => k_is)
    (case c2 => k_is)
    (case k2 => k_is)
    (case a3 => k_is)
    (case l3 => k_is)
    (case c3 => k_is)
    (case k3 => k_is)
    (case a4 => k_is)
    (case l4 => k_is)
    (case c4 => k_is)
    (case k4 => k_is)
    (case a5 => k_is)
    (case l5 => k_is)
    (case c5 => k_is)
    (case k5 => k_is)
    (case a6 => k_is)
    (case l6 => k_is)
    (case c6 => k_is)
    (case k6 => k_is)
    (case a7 => k_is)
    (case l7 => k_is)
    (case c7 => k_is)
    (case k7 => k_is)
    (case a8 => k_is)
    (case l8 => k_is)
    (case c8 => k_is)
    (case k8 => k_is)
    (case a9 => k_is)
    (case l9 => k_is)
    (case c9 => k_is)
    (case k9 => k_is)
    (case a10 => k_is)
    (case l10 => k_is)
    (case c10 => k_is)
    (case k10 => k_is)
    (case z_len => k_is)
    (case z_range => k_is)
    (case z_list => k_is)
    (case z_min => k_is)
    (case z_int => k_is)
    (case z_sorted => k_is)
    (case z_any => k_is)
