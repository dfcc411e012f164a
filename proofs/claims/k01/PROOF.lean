import PyProof.Rows.All
import Wide.All
import OpenK.AllK
import Wide.FinOn
import HandS.ForMost
import HandS.ForExc
import HandS.Walk
import HandS.TupAny
import HandS.TupMul
import HandS.Style
import HandS.Steps
import HandS.Zip
import KE.SortData
import PyProof.CollectStr
import PyProof.TupleOfSeq
import PyProof.Transfer
import KE.KDictSum
import HandS.Conv
import HandS.Replace
import HandS.SetFor
import PyProof.ListStr
import KE.KRevSl
import HandS.HeadEnd
import HandS.ExcOwn
import KE.DataMinMax
import KE.GoesEnum
import HandS.Dict
import HandS.IsInst
import HandS.TupSets
import HandS.SetTxt0
import HandS.Codes
import HandS.HotCalls
import HandS.ExcIs
import KE.DataFind
import HandS.Deep
import KE.GoesRaise
import KE.GoesZip
import KE.GoesMore
import HandS.SortKw
import PyProof.StrOps2
import HandS.Flow
import HandS.Text
import HandS.Sort
import HandS.TupLe
import PyProof.Rows.IntBool
import PySem.Challenge.RW_wheelorders_k01_wheels
set_option Elab.async false
set_option linter.all false
set_option maxRecDepth 100000
set_option maxHeartbeats 4000000
/-! The data layer: what a body does, told over plain data (PyData), with no heap in sight. -/
namespace DL
open PySem L2
abbrev Fg := PySem.W.Frag

/-- what an expression comes to: a datum; an exception of the class numbered c; nothing said -/
inductive Res (α : Type) where
  | ok (a : α)
  | exc (c : Nat)
  | stuck
namespace Res
def bind {α β : Type} (r : Res α) (f : α → Res β) : Res β := match r with
  | .ok a => f a
  | .exc c => .exc c
  | .stuck => .stuck
def on {α : Type} (r : Res α) (k : α → Prop) (e : Nat → Prop) : Prop := match r with
  | .ok a => k a
  | .exc c => e c
  | .stuck => False
@[simp] theorem ok_bind {α β : Type} (a : α) (f : α → Res β) : (Res.ok a).bind f = f a := rfl
@[simp] theorem exc_bind {α β : Type} (c : Nat) (f : α → Res β) : (Res.exc c : Res α).bind f = .exc c := rfl
@[simp] theorem stuck_bind {α β : Type} (f : α → Res β) : (Res.stuck : Res α).bind f = .stuck := rfl
@[simp] theorem ok_on {α : Type} (a : α) (k : α → Prop) (e : Nat → Prop) : (Res.ok a).on k e = k a := rfl
@[simp] theorem exc_on {α : Type} (c : Nat) (k : α → Prop) (e : Nat → Prop) : (Res.exc c : Res α).on k e = e c := rfl
@[simp] theorem stuck_on {α : Type} (k : α → Prop) (e : Nat → Prop) : (Res.stuck : Res α).on k e = False := rfl
/-- c, or nothing said -/
def need {α : Type} (c : Prop) [Decidable c] (r : Res α) : Res α := if c then r else .stuck
theorem need_pos {α : Type} {c : Prop} [Decidable c] (h : c) (r : Res α) : need c r = r := if_pos h
end Res

/-! ### data -/
/-- the text of these signs -/
def S (l : List Nat) : Str := ⟨l.toArray⟩
inductive D where
  | none
  | bool (b : Bool)
  | int (i : Int)
  | str (l : List Nat)
  | list (l : List D)
  | tuple (l : List D)
  | dicK (ks : List Key) (vs : List D)
  | dicT (ks : List (List Key)) (vs : List D)
  | scr (ns : List Int)
  | adr (a : Addr)
  | obj (a : Addr) (ft : List Addr) (c : Nat) (fs : List D)
  | fzl (l : List D)
/-! objects: their classes, the names of their fields, the lists that fields hold -/
def clsN : Nat → Str
  | 0 => "Printer"
  | _ => "Learner"
def fldN : Nat → List Str
  | 0 => ["manner", "wheel", "texts", "many", "past"]
  | _ => ["manner", "first", "now", "past", "undone"]
def clsA (K : Fg) (c : Nat) (C : Addr) : Prop := PySem.W.nsIn K mainGlobals (clsN c) = some (some (.ref C))
def lsV : List D → List V → List Addr
  | .list _ :: ds, .ref l :: vs => l :: lsV ds vs
  | .obj _ ft _ _ :: ds, _ :: vs => ft ++ lsV ds vs
  | _ :: ds, _ :: vs => lsV ds vs
  | _, _ => []
/-- the parts' places are apart -/
def apV : List D → List V → Prop
  | d :: ds, v :: vs => (∀ x ∈ lsV [d] [v], x ∉ lsV ds vs) ∧ apV ds vs
  | _, _ => True
/-- parts of a list of the body's own that holds such, or objects -/
def isPart : D → Bool
  | .list _ | .obj _ _ _ _ => true
  | _ => false
def boxL (fs : List D) : Bool := !fs.isEmpty && fs.all isPart
/-- a script at a: where it may change ft is its place -/
def scrAt (K : Fg) (H : Hp) (a : Addr) (ft : List Addr) (ns : List Int) : Prop := (ft = [a] ∧ H a = some (.lst (ns.map V.int))) ∨ (ft = [] ∧ ((∃ o, H a = some (.frz o (.lst (ns.map V.int)))) ∨ SqL K (fun _ => none) a (ns.map V.int)))
theorem scrAt.mono {K : Fg} {H H' : Hp} {a : Addr} {ft : List Addr} {ns : List Int} (e : ∀ o, H a = some o → H' a = some o) (h : scrAt K H a ft ns) : scrAt K H' a ft ns := by
  rcases h with ⟨h1, h2⟩ | ⟨h1, ⟨o, h2⟩ | h2⟩
  · exact .inl ⟨h1, e _ h2⟩
  · exact .inr ⟨h1, .inl ⟨o, e _ h2⟩⟩
  · exact .inr ⟨h1, .inr h2⟩
/-! v stands for d -/
mutual
def Rp (K : Fg) (H : Hp) : D → V → Prop
  | .none, v => v = .non
  | .bool b, v => v = .bl b
  | .int i, v => v = .int i
  | .str l, v => v = .str (S l)
  | .list l, v => ∃ a xs, v = .ref a ∧ H a = some (.lst xs) ∧ RpAll K H l xs
  | .tuple l, v => ∃ a xs, v = .ref a ∧ H a = some (.tup xs) ∧ RpAll K H l xs
  | .dicK ks vs, v => ∃ a kvs, v = .ref a ∧ Rd H a (.dK kvs) ∧ kvs.map (·.1) = ks ∧ RpAll K H vs (kvs.map (·.2))
  | .dicT ks vs, v => ∃ a kvs, v = .ref a ∧ Rd H a (.dT kvs) ∧ kvs.map (·.1) = ks ∧ RpAll K H vs (kvs.map (·.2))
  | .scr ns, v => ∃ a, v = .ref a ∧ SqL K H a (ns.map V.int)
  | .adr a, v => v = .ref a
  | .obj a ft c fs, v => v = .ref a ∧ ((c ≠ 2 ∧ ∃ dx C gs, ft = a :: dx :: lsV fs (gs.map (·.2)) ∧ H a = some (.ins C dx gs) ∧ H dx = some (.own a) ∧ clsA K c C ∧ gs.map (·.1) = fldN c ∧ RpAll K H fs (gs.map (·.2))) ∨ (c = 2 ∧ ∃ ns, fs = ns.map D.int ∧ scrAt K H a ft ns) ∨ (c = 2 ∧ boxL fs = true ∧ ∃ vs, ft = a :: lsV fs vs ∧ H a = some (.lst vs) ∧ RpAll K H fs vs ∧ a ∉ lsV fs vs ∧ apV fs vs))
  | .fzl l, v => ∃ a o xs, v = .ref a ∧ H a = some (.frz o (.lst xs)) ∧ RpAll K H l xs
def RpAll (K : Fg) (H : Hp) : List D → List V → Prop
  | [], vs => vs = []
  | d :: ds, vs => ∃ v r, vs = v :: r ∧ Rp K H d v ∧ RpAll K H ds r
end
theorem same_rd {H H' : Hp} {a : Addr} {u : HO} (e : Same H H') (h : Rd H a u) : Rd H' a u := by
  rcases h with h | ⟨o, h⟩
  · exact Or.inl (e a _ h)
  · exact Or.inr ⟨o, e a _ h⟩
theorem same_l {K : Fg} {H H' : Hp} {a : Addr} {xs : List V} (e : Same H H') (h : SqL K H a xs) : SqL K H' a xs := by
  rcases h with h | h
  · exact Or.inl (same_rd e h)
  · exact Or.inr h
theorem same_t {K : Fg} {H H' : Hp} {a : Addr} {xs : List V} (e : Same H H') (h : SqT K H a xs) : SqT K H' a xs := by
  rcases h with h | h
  · exact Or.inl (same_rd e h)
  · exact Or.inr h
mutual
theorem Rp.mono {K : Fg} {H H' : Hp} (e : Same H H') : ∀ (d : D) (v : V), Rp K H d v → Rp K H' d v
  | .none, _, h => by unfold Rp at h ⊢; exact h
  | .bool _, _, h => by unfold Rp at h ⊢; exact h
  | .int _, _, h => by unfold Rp at h ⊢; exact h
  | .str _, _, h => by unfold Rp at h ⊢; exact h
  | .list l, _, h => by
    unfold Rp at h ⊢
    obtain ⟨a, xs, hv, ha, hx⟩ := h
    exact ⟨a, xs, hv, e _ _ ha, RpAll.mono e l xs hx⟩
  | .tuple l, _, h => by
    unfold Rp at h ⊢
    obtain ⟨a, xs, hv, ha, hx⟩ := h
    exact ⟨a, xs, hv, e _ _ ha, RpAll.mono e l xs hx⟩
  | .dicK ks vs, _, h => by
    unfold Rp at h ⊢
    obtain ⟨a, xs, hv, ha, hk, hx⟩ := h
    exact ⟨a, xs, hv, same_rd e ha, hk, RpAll.mono e vs _ hx⟩
  | .dicT ks vs, _, h => by
    unfold Rp at h ⊢
    obtain ⟨a, xs, hv, ha, hk, hx⟩ := h
    exact ⟨a, xs, hv, same_rd e ha, hk, RpAll.mono e vs _ hx⟩
  | .scr ns, _, h => by
    unfold Rp at h ⊢
    obtain ⟨a, hv, ha⟩ := h
    exact ⟨a, hv, same_l e ha⟩
  | .adr _, _, h => by unfold Rp at h ⊢; exact h
  | .obj a ft c fs, _, h => by
    unfold Rp at h ⊢
    rcases h with ⟨hv, ⟨n, dx, C, gs, h1, h2, h3, h4, h5, h6⟩ | ⟨n, ns, h1, h2⟩ | ⟨n, h1, vs, h2, h3, h4, h5⟩⟩
    · exact ⟨hv, .inl ⟨n, dx, C, gs, h1, e _ _ h2, e _ _ h3, h4, h5, RpAll.mono e fs _ h6⟩⟩
    · exact ⟨hv, .inr (.inl ⟨n, ns, h1, h2.mono fun o z => e _ _ z⟩)⟩
    · exact ⟨hv, .inr (.inr ⟨n, h1, vs, h2, e _ _ h3, RpAll.mono e fs _ h4, h5⟩)⟩
  | .fzl l, _, h => by
    unfold Rp at h ⊢
    obtain ⟨a, o, xs, hv, ha, hx⟩ := h
    exact ⟨a, o, xs, hv, e _ _ ha, RpAll.mono e l xs hx⟩
theorem RpAll.mono {K : Fg} {H H' : Hp} (e : Same H H') : ∀ (ds : List D) (vs : List V), RpAll K H ds vs → RpAll K H' ds vs
  | [], _, h => by unfold RpAll at h ⊢; exact h
  | d :: ds, _, h => by
    unfold RpAll at h ⊢
    obtain ⟨v, r, hv, h1, h2⟩ := h
    exact ⟨v, r, hv, Rp.mono e d v h1, RpAll.mono e ds r h2⟩
end
theorem RpAll.length {K : Fg} {H : Hp} : ∀ {ds : List D} {vs : List V}, RpAll K H ds vs → vs.length = ds.length
  | [], _, h => by unfold RpAll at h; subst h; rfl
  | d :: ds, _, h => by
    unfold RpAll at h
    obtain ⟨v, r, rfl, _, h2⟩ := h
    rw [List.length_cons, List.length_cons, h2.length]
theorem RpAll.get {K : Fg} {H : Hp} : ∀ {ds : List D} {vs : List V} {i : Nat} {v : V}, RpAll K H ds vs → vs[i]? = some v → ∃ d, ds[i]? = some d ∧ Rp K H d v
  | [], _, i, v, h, e => by unfold RpAll at h; subst h; cases e
  | d :: ds, _, i, v, h, e => by
    unfold RpAll at h
    obtain ⟨u, r, rfl, h1, h2⟩ := h
    cases i with
    | zero => cases e; exact ⟨d, rfl, h1⟩
    | succ i => exact h2.get (i := i) e
theorem RpAll.get' {K : Fg} {H : Hp} : ∀ {ds : List D} {vs : List V} {i : Nat} {d : D}, RpAll K H ds vs → ds[i]? = some d → ∃ v, vs[i]? = some v ∧ Rp K H d v
  | [], _, i, d, h, e => by cases e
  | d :: ds, _, i, d', h, e => by
    unfold RpAll at h
    obtain ⟨u, r, rfl, h1, h2⟩ := h
    cases i with
    | zero => cases e; exact ⟨u, rfl, h1⟩
    | succ i => exact h2.get' (i := i) e
theorem RpAll.nil {K : Fg} {H : Hp} : RpAll K H [] [] := by unfold RpAll; rfl
theorem RpAll.cons {K : Fg} {H : Hp} {d : D} {v : V} {ds : List D} {vs : List V} (h : Rp K H d v) (t : RpAll K H ds vs) : RpAll K H (d :: ds) (v :: vs) := by
  unfold RpAll
  exact ⟨v, vs, rfl, h, t⟩
theorem RpAll.append {K : Fg} {H : Hp} : ∀ {ds es : List D} {vs us : List V}, RpAll K H ds vs → RpAll K H es us → RpAll K H (ds ++ es) (vs ++ us)
  | [], es, _, us, h, g => by unfold RpAll at h; subst h; exact g
  | d :: ds, es, _, us, h, g => by
    unfold RpAll at h
    obtain ⟨v, r, rfl, h1, h2⟩ := h
    exact .cons h1 (h2.append g)
theorem RpAll.drop {K : Fg} {H : Hp} : ∀ {ds : List D} {vs : List V} (n : Nat), RpAll K H ds vs → RpAll K H (ds.drop n) (vs.drop n)
  | _, _, 0, h => h
  | [], _, n + 1, h => by unfold RpAll at h; subst h; exact .nil
  | d :: ds, _, n + 1, h => by
    unfold RpAll at h
    obtain ⟨v, r, rfl, h1, h2⟩ := h
    exact h2.drop n
theorem RpAll.take {K : Fg} {H : Hp} : ∀ {ds : List D} {vs : List V} (n : Nat), RpAll K H ds vs → RpAll K H (ds.take n) (vs.take n)
  | ds, vs, 0, h => by rw [List.take_zero, List.take_zero]; exact .nil
  | [], _, n + 1, h => by unfold RpAll at h; subst h; exact .nil
  | d :: ds, _, n + 1, h => by
    unfold RpAll at h
    obtain ⟨v, r, rfl, h1, h2⟩ := h
    exact .cons h1 (h2.take n)
theorem RpAll.reverse {K : Fg} {H : Hp} : ∀ {ds : List D} {vs : List V}, RpAll K H ds vs → RpAll K H ds.reverse vs.reverse
  | [], _, h => by unfold RpAll at h; subst h; exact .nil
  | d :: ds, _, h => by
    unfold RpAll at h
    obtain ⟨v, r, rfl, h1, h2⟩ := h
    rw [List.reverse_cons, List.reverse_cons]
    exact h2.reverse.append (.cons h1 .nil)
theorem RpAll.set {K : Fg} {H : Hp} : ∀ {ds : List D} {vs : List V} {d : D} {v : V} (n : Nat), RpAll K H ds vs → Rp K H d v → RpAll K H (ds.set n d) (vs.set n v)
  | [], _, d, v, n, h, _ => by unfold RpAll at h; subst h; exact .nil
  | e :: ds, _, d, v, n, h, g => by
    unfold RpAll at h
    obtain ⟨u, r, rfl, h1, h2⟩ := h
    cases n with
    | zero => exact .cons g h2
    | succ n => exact .cons h1 (h2.set n g)

/-! no list, no dict within -/
mutual
def imm : D → Bool
  | .none | .bool _ | .int _ | .str _ | .adr _ => true
  | .tuple l => immAll l
  | .fzl l => immAll l
  | .list _ | .dicK _ _ | .dicT _ _ | .scr _ | .obj _ _ _ _ => false
def immAll : List D → Bool
  | [] => true
  | d :: r => imm d && immAll r
end
theorem immAll_iff : ∀ (l : List D), immAll l = true ↔ ∀ d ∈ l, imm d = true
  | [] => by simp [immAll]
  | d :: r => by simp [immAll, immAll_iff r]

/-! ### the slots -/
abbrev Dv := List (Option D)
def EnvD (K : Fg) (H : Hp) (σ : St) (δ : Dv) : Prop := δ.length ≤ σ.length ∧ ∀ (i : Nat) (d : D), δ[i]? = some (some d) → ∃ v, σ[i]? = some (some v) ∧ Rp K H d v
theorem EnvD.mono {K : Fg} {H H' : Hp} {σ : St} {δ : Dv} (e : Same H H') (h : EnvD K H σ δ) : EnvD K H' σ δ := ⟨h.1, fun i d q => by
  obtain ⟨v, h1, h2⟩ := h.2 i d q
  exact ⟨v, h1, Rp.mono e _ _ h2⟩⟩
def isBox : D → Bool
  | .list _ | .dicK _ _ | .dicT _ _ | .scr _ => true
  | _ => false
/-- a list or dict is a new one -/
def Fresh (H : Hp) (v : V) (d : D) : Prop := isBox d = true → ∃ p, v = .ref p ∧ H p = none
theorem Fresh.back {H H' : Hp} {v : V} {d : D} (e : Same H H') (h : Fresh H' v d) : Fresh H v d := fun b => by
  obtain ⟨p, hp, hn⟩ := h b
  exact ⟨p, hp, e.free hn⟩

/-- what is wanted behind an expression that comes to r -/
def PostE (K : Fg) (cl : Nat → Addr) (W : WX) (σ : St) (H : Hp) (r : Res D) (Q : VK) : Prop := r.on (fun d => ∀ v H', Same H H' → Rp K H' d v → Q v H') (fun c => ∀ H', Same H H' → W (.ref (cl c)) none σ H')
def PostF (K : Fg) (cl : Nat → Addr) (W : WX) (σ : St) (H : Hp) (r : Res D) (Q : VK) : Prop := r.on (fun d => ∀ v H', Same H H' → Rp K H' d v → Fresh H v d → Q v H') (fun c => ∀ H', Same H H' → W (.ref (cl c)) none σ H')
def PostB (cl : Nat → Addr) (W : WX) (σ : St) (H : Hp) (r : Res Bool) (Q : Bool → Hp → Prop) : Prop := r.on (fun b => ∀ H', Same H H' → Q b H') (fun c => ∀ H', Same H H' → W (.ref (cl c)) none σ H')
def PostA (K : Fg) (cl : Nat → Addr) (W : WX) (σ : St) (H : Hp) (r : Res (List D)) (Q : List V → Hp → Prop) : Prop := r.on (fun ds => ∀ vs H', Same H H' → RpAll K H' ds vs → Q vs H') (fun c => ∀ H', Same H H' → W (.ref (cl c)) none σ H')

/-- e, at slots that stand for δ, comes to f δ -/
def SimE (K : Fg) (cl : Nat → Addr) (W : WX) (te : TE) (f : Dv → Res D) : Prop := ∀ (δ : Dv) (σ : St) (H : Hp) (Q : VK), EnvD K H σ δ → PostE K cl W σ H (f δ) Q → te σ H Q
def SimF (K : Fg) (cl : Nat → Addr) (W : WX) (te : TE) (f : Dv → Res D) : Prop := ∀ (δ : Dv) (σ : St) (H : Hp) (Q : VK), EnvD K H σ δ → PostF K cl W σ H (f δ) Q → te σ H Q
def SimT (K : Fg) (cl : Nat → Addr) (W : WX) (tt : TT) (f : Dv → Res Bool) : Prop := ∀ (δ : Dv) (σ : St) (H : Hp) (Q : Bool → Hp → Prop), EnvD K H σ δ → PostB cl W σ H (f δ) Q → tt σ H Q
def SimA (K : Fg) (cl : Nat → Addr) (W : WX) (ta : TA) (f : Dv → Res (List D)) : Prop := ∀ (δ : Dv) (σ : St) (H : Hp) (Q : List V → Hp → Prop), EnvD K H σ δ → PostA K cl W σ H (f δ) Q → ta σ H Q

structure QE (X : Cx) (cl : Nat → Addr) (W : WX) (e : Expr) (te : TE) (f : Dv → Res D) : Prop where
  pe : PE X e te
  sim : SimE X.K cl W te f
structure QF (X : Cx) (cl : Nat → Addr) (W : WX) (e : Expr) (te : TE) (f : Dv → Res D) : Prop where
  pe : PE X e te
  sim : SimF X.K cl W te f
structure QT (X : Cx) (cl : Nat → Addr) (W : WX) (e : Expr) (te : TT) (f : Dv → Res Bool) : Prop where
  pe : PT X e te
  sim : SimT X.K cl W te f
structure QW (X : Cx) (cl : Nat → Addr) (W : WX) (e : Expr) (te : TT) (f : Dv → Res Bool) : Prop where
  pe : PW X e te
  sim : SimT X.K cl W te f
structure QA (X : Cx) (cl : Nat → Addr) (W : WX) (es : List Expr) (te : TA) (f : Dv → Res (List D)) : Prop where
  pe : PA X es te
  sim : SimA X.K cl W te f

theorem PostE.toF {K : Fg} {cl : Nat → Addr} {W : WX} {σ : St} {H : Hp} {r : Res D} {Q : VK} (h : PostE K cl W σ H r Q) : PostF K cl W σ H r Q := by
  cases r with
  | ok d => exact fun v H' s q _ => h v H' s q
  | exc c => exact h
  | stuck => exact h
theorem QF.qe {X : Cx} {cl : Nat → Addr} {W : WX} {e : Expr} {te : TE} {f : Dv → Res D} (h : QF X cl W e te f) : QE X cl W e te f := ⟨h.pe, fun δ σ H Q en po => h.sim δ σ H Q en po.toF⟩
theorem QW.qt {X : Cx} {cl : Nat → Addr} {W : WX} {e : Expr} {te : TT} {f : Dv → Res Bool} (h : QW X cl W e te f) : QT X cl W e te f := ⟨h.pe.pt, h.sim⟩

/-- an expression, then more -/
theorem PostE.then_ {K : Fg} {cl : Nat → Addr} {W : WX} {σ : St} {H : Hp} {r : Res D} {Q : VK} {P : Hp → Res Bool → Prop}
    (h : r.on (fun d => ∀ v H', Same H H' → Rp K H' d v → Q v H') (fun c => ∀ H', Same H H' → W (.ref (cl c)) none σ H')) : PostE K cl W σ H r Q := h

/-- an expression whose value is fresh if it can't be a list or dict -/
theorem QE.qf {X : Cx} {cl : Nat → Addr} {W : WX} {e : Expr} {te : TE} {f : Dv → Res D} (h : QE X cl W e te f) (nb : ∀ δ d, f δ = .ok d → isBox d = false) : QF X cl W e te f := by
  refine ⟨h.pe, fun δ σ H Q en po => h.sim δ σ H Q en ?_⟩
  cases r : f δ with
  | ok d =>
    rw [r] at po
    exact fun v H' sm q => po v H' sm q fun b => by rw [nb δ d r] at b; cases b
  | exc c => rw [r] at po; exact po
  | stuck => rw [r] at po; exact po
/-- .. or: where it is one nothing is said -/
def noBox (r : Res D) : Res D := r.bind fun d => if isBox d then .stuck else .ok d
theorem QE.qn {X : Cx} {cl : Nat → Addr} {W : WX} {e : Expr} {te : TE} {f : Dv → Res D} (h : QE X cl W e te f) : QF X cl W e te (fun δ => noBox (f δ)) := by
  refine ⟨h.pe, fun δ σ H Q en po => h.sim δ σ H Q en ?_⟩
  change PostF X.K cl W σ H (noBox (f δ)) Q at po
  cases r : f δ with
  | ok d =>
    rw [r] at po
    unfold noBox at po
    rw [Res.ok_bind] at po
    cases b : isBox d with
    | true => rw [b] at po; exact po.elim
    | false =>
      rw [b] at po
      exact fun v H' sm q => po v H' sm q fun z => by rw [b] at z; cases z
  | exc c => rw [r] at po; exact po
  | stuck => rw [r] at po; exact po

section
variable {X : Cx} {cl : Nat → Addr} {W : WX}
/-! ### names and constants -/
def dVar (i : Nat) : Dv → Res D := fun δ => match δ[i]? with
  | some (some d) => .ok d
  | _ => .stuck
theorem q_var {e : Expr} (i : Nat) (h : PE X e (tVar i)) : QE X cl W e (tVar i) (dVar i) := by
  refine ⟨h, fun δ σ H Q en po => ?_⟩
  unfold dVar at po
  cases r : δ[i]? with
  | none => rw [r] at po; exact po.elim
  | some o =>
    cases o with
    | none => rw [r] at po; exact po.elim
    | some d =>
      rw [r] at po
      obtain ⟨v, hv, hr⟩ := en.2 i d r
      exact ⟨v, hv, po v H (Same.refl H) hr⟩
def dC (d : D) : Dv → Res D := fun _ => .ok d
theorem q_c {e : Expr} {v : V} {d : D} (h : PE X e (tC v)) (r : ∀ H, Rp X.K H d v) (nb : isBox d = false := by rfl) : QF X cl W e (tC v) (dC d) :=
  ⟨h, fun _ _ H _ _ po => po v H (Same.refl H) (r H) fun b => by rw [nb] at b; cases b⟩
theorem q_int {i : Int} {j : Nat} {pos : Pos} : QF X cl W (.Constant (.int i) j pos) (tC (.int i)) (dC (.int i)) := q_c pe_int fun _ => by unfold Rp; rfl
theorem q_bl {b : Bool} {j : Nat} {pos : Pos} : QF X cl W (.Constant (.bool b) j pos) (tC (.bl b)) (dC (.bool b)) := q_c pe_bl fun _ => by unfold Rp; rfl
theorem q_non {j : Nat} {pos : Pos} : QF X cl W (.Constant .none j pos) (tC .non) (dC .none) := q_c pe_non fun _ => by unfold Rp; rfl
theorem q_str {x : Str} {j : Nat} {pos : Pos} : QF X cl W (.Constant (.str x) j pos) (tC (.str x)) (dC (.str x.cps.toList)) := q_c pe_str fun _ => by unfold Rp; rfl

/-! ### two operands -/
/-- a two-place operation by values comes to g -/
def SimR (K : Fg) (cl : Nat → Addr) (r : R2) (g : D → D → Res D) : Prop := ∀ (x y : V) (a b : D) (σ : St) (H : Hp) (Q : VK), Rp K H a x → Rp K H b y → PostF K cl (fun _ _ _ _ => False) σ H (g a b) Q → r x y H Q
def d2 (g : D → D → Res D) (f h : Dv → Res D) : Dv → Res D := fun δ => (f δ).bind fun a => (h δ).bind fun b => g a b
def noExc (r : Res D) : Prop := ∀ c, r ≠ .exc c
theorem PostF.weak {K : Fg} {σ : St} {H H' : Hp} {r : Res D} {Q : VK} (s : Same H H') (h : PostF K cl W σ H r Q) : PostF K cl W σ H' r Q := by
  cases r with
  | ok d => exact fun v H2 s2 q fr => h v H2 (s.trans s2) q (fr.back s)
  | exc c => exact fun H2 s2 => h H2 (s.trans s2)
  | stuck => exact h
theorem PostE.weak {K : Fg} {σ : St} {H H' : Hp} {r : Res D} {Q : VK} (s : Same H H') (h : PostE K cl W σ H r Q) : PostE K cl W σ H' r Q := by
  cases r with
  | ok d => exact fun v H2 s2 q => h v H2 (s.trans s2) q
  | exc c => exact fun H2 s2 => h H2 (s.trans s2)
  | stuck => exact h
theorem PostB.weak {σ : St} {H H' : Hp} {r : Res Bool} {Q : Bool → Hp → Prop} (s : Same H H') (h : PostB cl W σ H r Q) : PostB cl W σ H' r Q := by
  cases r with
  | ok d => exact fun H2 s2 => h H2 (s.trans s2)
  | exc c => exact fun H2 s2 => h H2 (s.trans s2)
  | stuck => exact h
theorem PostA.weak {K : Fg} {σ : St} {H H' : Hp} {r : Res (List D)} {Q : List V → Hp → Prop} (s : Same H H') (h : PostA K cl W σ H r Q) : PostA K cl W σ H' r Q := by
  cases r with
  | ok d => exact fun v H2 s2 q => h v H2 (s.trans s2) q
  | exc c => exact fun H2 s2 => h H2 (s.trans s2)
  | stuck => exact h
/-- one expression, its value handed on -/
theorem SimE.chain {K : Fg} {te : TE} {f : Dv → Res D} {β : Type} {k : D → Res β} {δ : Dv} {σ : St} {H : Hp} {Q : VK} {P : Hp → Res β → Prop} (s : SimE K cl W te f) (en : EnvD K H σ δ)
    (po : P H ((f δ).bind k)) (hx : ∀ c, P H (.exc c) → ∀ H', Same H H' → W (.ref (cl c)) none σ H') (hst : ∀ H, ¬ P H .stuck)
    (hk : ∀ d v H', f δ = .ok d → Same H H' → Rp K H' d v → P H (k d) → Q v H') : te σ H Q := by
  refine s δ σ H Q en ?_
  cases r : f δ with
  | ok d => rw [r, Res.ok_bind] at po; exact fun v H' sm q => hk d v H' r sm q po
  | exc c => rw [r] at po; exact hx c po
  | stuck => rw [r] at po; exact (hst H po).elim
theorem tOp_sim {ta tb : TE} {f h : Dv → Res D} {r : R2} {g : D → D → Res D} (sa : SimE X.K cl W ta f) (sb : SimE X.K cl W tb h) (sr : SimR X.K cl r g) (ne : ∀ a b, noExc (g a b)) : SimF X.K cl W (tOp r ta tb) (d2 g f h) := by
  intro δ σ H Q en po
  show ta σ H fun x H1 => tb σ H1 fun y H2 => r x y H2 Q
  refine sa.chain (P := fun H r => PostF X.K cl W σ H r Q) en po (fun c h => h) (fun H h => h) fun a x H1 _ s1 r1 po1 => ?_
  show tb σ H1 fun y H2 => r x y H2 Q
  refine sb.chain (P := fun H r => PostF X.K cl W σ H r Q) (en.mono s1) (po1.weak s1) (fun c h => h) (fun H h => h) fun b y H2 _ s2 r2 po2 => ?_
  refine sr x y a b σ H2 Q (Rp.mono s2 _ _ r1) r2 ?_
  have p3 := po2.weak s2
  cases q : g a b with
  | ok d => rw [q] at p3; exact p3
  | exc c => exact (ne a b c q).elim
  | stuck => rw [q] at p3; exact p3
theorem q_op {a b : Expr} {op : Operator} {pos : Pos} {r : R2} {g : D → D → Res D} {ta tb : TE} {f h : Dv → Res D} (ho : OpR X (binaryOp op) r) (sr : SimR X.K cl r g) (ne : ∀ a b, noExc (g a b)) (ha : QE X cl W a ta f) (hb : QE X cl W b tb h) : QF X cl W (.BinOp a op b pos) (tOp r ta tb) (d2 g f h) := ⟨pe_op ho ha.pe hb.pe, tOp_sim ha.sim hb.sim sr ne⟩
theorem q_cmp {a b : Expr} {op : CmpOp} {pos : Pos} {r : R2} {g : D → D → Res D} {ta tb : TE} {f h : Dv → Res D} (ho : OpR X (compareOp op) r) (sr : SimR X.K cl r g) (ne : ∀ a b, noExc (g a b)) (ha : QE X cl W a ta f) (hb : QE X cl W b tb h) (hm : behindInMarks op b = false := by rfl) : QF X cl W (.Compare a [op] [b] pos) (tOp r ta tb) (d2 g f h) := ⟨pe_cmpR ho ha.pe hb.pe hm, tOp_sim ha.sim hb.sim sr ne⟩
theorem q_ix {a b : Expr} {pos : Pos} {r : R2} {g : D → D → Res D} {ta tb : TE} {f h : Dv → Res D} (ho : IxR X r) (sr : SimR X.K cl r g) (ne : ∀ a b, noExc (g a b)) (ha : QE X cl W a ta f) (hb : QE X cl W b tb h) (hs : PlainIx b := by exact fun _ _ => rfl) : QF X cl W (.Subscript a b pos) (tOp r ta tb) (d2 g f h) := ⟨pe_ix ho ha.pe hb.pe hs, tOp_sim ha.sim hb.sim sr ne⟩
/-- a value as a test: a bool -/
def dB (f : Dv → Res D) : Dv → Res Bool := fun δ => (f δ).bind fun d => match d with
  | .bool b => .ok b
  | _ => .stuck
theorem tTest_sim {te : TE} {f : Dv → Res D} (s : SimE X.K cl W te f) : SimT X.K cl W (tTest te) (dB f) := by
  intro δ σ H Q en po
  show te σ H fun x H' => ∃ k, x = .bl k ∧ Q k H'
  refine s.chain (P := fun H r => PostB cl W σ H r Q) en po (fun c h => h) (fun H h => h) fun d v H1 _ s1 r1 p1 => ?_
  cases d with
  | bool b => unfold Rp at r1; subst r1; exact ⟨b, rfl, p1 H1 s1⟩
  | _ => exact p1.elim
theorem qt_cmp {a b : Expr} {op : CmpOp} {pos : Pos} {r : R2} {g : D → D → Res D} {ta tb : TE} {f h : Dv → Res D} (ho : OpR X (compareOp op) r) (sr : SimR X.K cl r g) (ne : ∀ a b, noExc (g a b)) (ha : QE X cl W a ta f) (hb : QE X cl W b tb h) (hm : behindInMarks op b = false := by rfl) : QT X cl W (.Compare a [op] [b] pos) (tTest (tOp r ta tb)) (dB (d2 g f h)) := ⟨pt_cmpR ho ha.pe hb.pe hm, tTest_sim fun δ σ H Q en po => tOp_sim ha.sim hb.sim sr ne δ σ H Q en po.toF⟩
end
end DL
namespace DL
open PySem L2
/-! ### texts -/
theorem S_len (l : List Nat) : (S l).length = l.length := by simp [S, Str.length]
theorem S_list (l : List Nat) : (S l).cps.toList = l := by simp [S]
theorem S_app (a b : List Nat) : S a ++ S b = S (a ++ b) := by
  show Str.append (S a) (S b) = S (a ++ b)
  simp [S, Str.append]
theorem S_eq (z : Str) : S z.cps.toList = z := by simp [S]
theorem S_inj {a b : List Nat} (h : S a = S b) : a = b := by
  have := congrArg (fun z : Str => z.cps.toList) h
  simpa [S] using this

/-- the longest text or tuple that is spoken of -/
abbrev big : Nat := 1000000
theorem big_le {n : Nat} (h : n ≤ big) : n ≤ sizeLine := Nat.le_trans h (by decide)
theorem big_lt {n : Nat} (h : n ≤ big) : n < sizeLine := Nat.lt_of_le_of_lt h (by decide)

section
variable {K : Fg} {cl : Nat → Addr}
theorem rp_int {H : Hp} {i : Int} {v : V} (h : Rp K H (.int i) v) : v = .int i := by unfold Rp at h; exact h
theorem rp_bl {H : Hp} {i : Bool} {v : V} (h : Rp K H (.bool i) v) : v = .bl i := by unfold Rp at h; exact h
theorem rp_str {H : Hp} {i : List Nat} {v : V} (h : Rp K H (.str i) v) : v = .str (S i) := by unfold Rp at h; exact h
theorem rp_non {H : Hp} {v : V} (h : Rp K H .none v) : v = .non := by unfold Rp at h; exact h
theorem rp_list {H : Hp} {l : List D} {v : V} (h : Rp K H (.list l) v) : ∃ a xs, v = .ref a ∧ H a = some (.lst xs) ∧ RpAll K H l xs := by unfold Rp at h; exact h
theorem rp_tupH {H : Hp} {l : List D} {v : V} (h : Rp K H (.tuple l) v) : ∃ a xs, v = .ref a ∧ H a = some (.tup xs) ∧ RpAll K H l xs := by unfold Rp at h; exact h
theorem tq {H : Hp} {a : Addr} {xs : List V} (h : H a = some (.tup xs)) : SqT K H a xs := Or.inl (Or.inl h)
theorem rp_tup {H : Hp} {l : List D} {v : V} (h : Rp K H (.tuple l) v) : ∃ a xs, v = .ref a ∧ SqT K H a xs ∧ RpAll K H l xs := by
  obtain ⟨a, xs, h1, h2, h3⟩ := rp_tupH h
  exact ⟨a, xs, h1, tq h2, h3⟩
theorem rpi {H : Hp} (i : Int) : Rp K H (.int i) (.int i) := by unfold Rp; rfl
theorem rpb {H : Hp} (i : Bool) : Rp K H (.bool i) (.bl i) := by unfold Rp; rfl
theorem rpn {H : Hp} : Rp K H .none .non := by unfold Rp; rfl
theorem rps {H : Hp} (i : List Nat) : Rp K H (.str i) (.str (S i)) := by unfold Rp; rfl
theorem rps' {H : Hp} (z : Str) : Rp K H (.str z.cps.toList) (.str z) := by unfold Rp; rw [S_eq]
theorem rpl {H : Hp} {l : List D} {a : Addr} {xs : List V} (h : H a = some (.lst xs)) (r : RpAll K H l xs) : Rp K H (.list l) (.ref a) := by unfold Rp; exact ⟨a, xs, rfl, h, r⟩
theorem rpt {H : Hp} {l : List D} {a : Addr} {xs : List V} (h : H a = some (.tup xs)) (r : RpAll K H l xs) : Rp K H (.tuple l) (.ref a) := by unfold Rp; exact ⟨a, xs, rfl, h, r⟩
theorem same_new {H : Hp} {p : Addr} {o : HO} (h : H p = none) : Same H (upd H p o) := fun a u e => by
  rw [upd_ne (ne_of_none e h)]
  exact e
theorem fresh_no {H : Hp} {v : V} {d : D} (h : isBox d = false) : Fresh H v d := fun b => by rw [h] at b; cases b
theorem fresh_of {H : Hp} {p : Addr} {d : D} (h : H p = none) : Fresh H (.ref p) d := fun _ => ⟨p, rfl, h⟩
theorem need_on {α : Type} {c : Prop} [Decidable c] {r : Res α} {k : α → Prop} {e : Nat → Prop} (h : (Res.need c r).on k e) : c ∧ r.on k e := by
  unfold Res.need at h
  by_cases hc : c
  · rw [if_pos hc] at h; exact ⟨hc, h⟩
  · rw [if_neg hc] at h; exact h.elim
theorem need_noExc {c : Prop} [Decidable c] {r : Res D} (h : noExc r) : noExc (Res.need c r) := fun k => by
  unfold Res.need
  by_cases hc : c
  · rw [if_pos hc]; exact h k
  · rw [if_neg hc]; intro z; cases z
theorem ok_noExc {d : D} : noExc (.ok d) := fun k z => by cases z
theorem stuck_noExc : noExc .stuck := fun k z => by cases z

theorem RpAll.nil_inv {H : Hp} {l : List D} (h : RpAll K H l []) : l = [] := List.length_eq_zero_iff.mp h.length.symm
/-! ### + -/
def oAdd : D → D → Res D
  | .int i, .int j => .ok (.int (i + j))
  | .str x, .str y => Res.need (x.length + y.length ≤ big) (.ok (.str (x ++ y)))
  | .tuple x, .tuple y => Res.need (x.length + y.length ≤ big) (.ok (.tuple (x ++ y)))
  | .list x, .list y => Res.need (x.length + y.length ≤ big) (.ok (.list (x ++ y)))
  | _, _ => .stuck
theorem oAdd_ne (a b : D) : noExc (oAdd a b) := by
  unfold oAdd
  split
  · exact ok_noExc
  · exact need_noExc ok_noExc
  · exact need_noExc ok_noExc
  · exact need_noExc ok_noExc
  · exact stuck_noExc
def rAddA (K : Fg) : R2 := fun x y H Q => (∃ i j, x = .int i ∧ y = .int j ∧ Q (.int (i + j)) H) ∨ (∃ i j, x = .str i ∧ y = .str j ∧ i.length + j.length ≤ sizeLine ∧ Q (.str (i ++ j)) H) ∨ rCatA K x y H Q ∨ rCat x y H Q
theorem or_add {X : Cx} : OpR X (binaryOp .Add) (rAddA X.K) := OpR.or op_add (OpR.or op_add_str (OpR.or op_catA op_cat))
theorem sim_add : SimR K cl (rAddA K) oAdd := by
  intro x y a b σ H Q ra rb po
  unfold oAdd at po
  split at po
  · obtain rfl := rp_int ra; obtain rfl := rp_int rb
    exact .inl ⟨_, _, rfl, rfl, po _ H (Same.refl H) (rpi _) (fresh_no rfl)⟩
  · obtain rfl := rp_str ra; obtain rfl := rp_str rb
    obtain ⟨hc, po⟩ := need_on po
    refine .inr (.inl ⟨_, _, rfl, rfl, by rw [S_len, S_len]; exact big_le hc, ?_⟩)
    rw [S_app]
    exact po _ H (Same.refl H) (rps _) (fresh_no rfl)
  · obtain ⟨p, xs, rfl, hp, hx⟩ := rp_tupH ra
    obtain ⟨q, ys, rfl, hq, hy⟩ := rp_tupH rb
    obtain ⟨hc, po⟩ := need_on po
    refine .inr (.inr (.inl ⟨p, q, xs, ys, rfl, rfl, tq hp, tq hq, by rw [hx.length, hy.length]; exact big_le hc, fun e => ?_, fun _ e => ?_, fun _ _ z hz => ?_⟩))
    · subst e
      rw [hx.nil_inv, List.nil_append] at po
      exact po _ H (Same.refl H) (rpt hq hy) (fresh_no rfl)
    · subst e
      rw [hy.nil_inv, List.append_nil] at po
      exact po _ H (Same.refl H) (rpt hp hx) (fresh_no rfl)
    · have s := same_new (o := .tup (xs ++ ys)) hz
      exact po _ _ s (rpt upd_same ((RpAll.mono s _ _ hx).append (RpAll.mono s _ _ hy))) (fresh_no rfl)
  · obtain ⟨p, xs, rfl, hp, hx⟩ := rp_list ra
    obtain ⟨q, ys, rfl, hq, hy⟩ := rp_list rb
    obtain ⟨hc, po⟩ := need_on po
    refine .inr (.inr (.inr ⟨p, q, xs, ys, rfl, rfl, hp, hq, by rw [hx.length, hy.length]; exact big_le hc, fun z hz => ?_⟩))
    have s := same_new (o := .lst (xs ++ ys)) hz
    exact po _ _ s (rpl upd_same ((RpAll.mono s _ _ hx).append (RpAll.mono s _ _ hy))) (fresh_of hz)
  · exact po.elim
/-! ### - * // % -/
def oSub : D → D → Res D
  | .int i, .int j => .ok (.int (i - j))
  | _, _ => .stuck
theorem oSub_ne (a b : D) : noExc (oSub a b) := by
  unfold oSub
  split
  · exact ok_noExc
  · exact stuck_noExc
theorem sim_sub : SimR K cl (rI0 fun i j => .int (i - j)) oSub := by
  intro x y a b σ H Q ra rb po
  unfold oSub at po
  split at po
  · obtain rfl := rp_int ra; obtain rfl := rp_int rb
    exact ⟨_, _, rfl, rfl, po _ H (Same.refl H) (rpi _) (fresh_no rfl)⟩
  · exact po.elim
def smallI (i : Int) : Prop := i.natAbs < 18446744073709551616
instance (i : Int) : Decidable (smallI i) := inferInstanceAs (Decidable (_ < _))
theorem smallI_ok {i : Int} (h : smallI i) : -(2 ^ 64) < i ∧ i < 2 ^ 64 := by
  unfold smallI at h
  omega
def oMul : D → D → Res D
  | .int i, .int j => Res.need (smallI i ∨ smallI j) (.ok (.int (i * j)))
  | .list l, .int k => Res.need (0 ≤ k ∧ k.natAbs ≤ 1000 ∧ l.length ≤ 1000) (.ok (.list (List.replicate k.toNat l).flatten))
  | _, _ => .stuck
theorem oMul_ne (a b : D) : noExc (oMul a b) := by
  unfold oMul
  split
  · exact need_noExc ok_noExc
  · exact need_noExc ok_noExc
  · exact stuck_noExc
theorem RpAll.rep {H : Hp} {l : List D} {xs : List V} (h : RpAll K H l xs) : ∀ n, RpAll K H (List.replicate n l).flatten (List.replicate n xs).flatten
  | 0 => .nil
  | n + 1 => by
    rw [List.replicate_succ, List.replicate_succ, List.flatten_cons, List.flatten_cons]
    exact h.append (RpAll.rep h n)
def rMulA : R2 := fun x y H Q => rI CMul (fun i j => .int (i * j)) x y H Q ∨ rRep x y H Q
theorem or_mul {X : Cx} : OpR X (binaryOp .Mult) rMulA := OpR.or op_mul op_rep
theorem sim_mul : SimR K cl rMulA oMul := by
  intro x y a b σ H Q ra rb po
  unfold oMul at po
  split at po
  · obtain rfl := rp_int ra; obtain rfl := rp_int rb
    obtain ⟨hc, po⟩ := need_on po
    exact .inl ⟨_, _, rfl, rfl, hc.imp smallI_ok smallI_ok, po _ H (Same.refl H) (rpi _) (fresh_no rfl)⟩
  · rename_i l k
    obtain ⟨p, xs, rfl, hp, hx⟩ := rp_list ra; obtain rfl := rp_int rb
    obtain ⟨⟨h0, h1, h2⟩, po⟩ := need_on po
    have hk : k.toNat ≤ 1000 := by omega
    have hm : xs.length * k.toNat ≤ big := by
      rw [hx.length]
      exact Nat.le_trans (Nat.mul_le_mul h2 hk) (by decide)
    refine .inr ⟨p, _, xs, rfl, rfl, hp, by omega, by omega, big_le hm, fun z hz => ?_⟩
    have s := same_new (o := .lst (List.replicate k.toNat xs).flatten) hz
    exact po _ _ s (rpl upd_same (RpAll.rep (RpAll.mono s _ _ hx) _)) (fresh_of hz)
  · exact po.elim
def oMod : D → D → Res D
  | .int i, .int j => Res.need (0 < j) (.ok (.int (i % j)))
  | _, _ => .stuck
theorem oMod_ne (a b : D) : noExc (oMod a b) := by
  unfold oMod
  split
  · exact need_noExc ok_noExc
  · exact stuck_noExc
theorem sim_mod : SimR K cl (rI (fun _ j => 0 < j) fun i j => .int (i % j)) oMod := by
  intro x y a b σ H Q ra rb po
  unfold oMod at po
  split at po
  · obtain rfl := rp_int ra; obtain rfl := rp_int rb
    obtain ⟨hc, po⟩ := need_on po
    exact ⟨_, _, rfl, rfl, hc, po _ H (Same.refl H) (rpi _) (fresh_no rfl)⟩
  · exact po.elim
def oDiv : D → D → Res D
  | .int i, .int j => Res.need (0 < j ∧ j.natAbs ≤ big) (.ok (.int (i / j)))
  | _, _ => .stuck
theorem oDiv_ne (a b : D) : noExc (oDiv a b) := by
  unfold oDiv
  split
  · exact need_noExc ok_noExc
  · exact stuck_noExc
theorem sim_div : SimR K cl (rI CDiv fun i j => .int (i / j)) oDiv := by
  intro x y a b σ H Q ra rb po
  unfold oDiv at po
  split at po
  · obtain rfl := rp_int ra; obtain rfl := rp_int rb
    obtain ⟨hc, po⟩ := need_on po
    exact ⟨_, _, rfl, rfl, ⟨hc.1, by have := hc.2; unfold big at this; omega⟩, po _ H (Same.refl H) (rpi _) (fresh_no rfl)⟩
  · exact po.elim
/-! ### < <= > >= of ints and texts -/
def oCmp (p : Int → Int → Bool) (q : List Nat → List Nat → Bool) : D → D → Res D
  | .int i, .int j => .ok (.bool (p i j))
  | .str x, .str y => .ok (.bool (q x y))
  | _, _ => .stuck
theorem oCmp_ne (p : Int → Int → Bool) (q : List Nat → List Nat → Bool) (a b : D) : noExc (oCmp p q a b) := by
  unfold oCmp
  split
  · exact ok_noExc
  · exact ok_noExc
  · exact stuck_noExc
def rCmpA (p : Int → Int → Bool) (q : List Nat → List Nat → Bool) : R2 := fun x y H Q => rI0 (fun i j => .bl (p i j)) x y H Q ∨ ∃ i j, x = .str i ∧ y = .str j ∧ Q (.bl (q i.cps.toList j.cps.toList)) H
theorem sim_cmp {p : Int → Int → Bool} {q : List Nat → List Nat → Bool} : SimR K cl (rCmpA p q) (oCmp p q) := by
  intro x y a b σ H Q ra rb po
  unfold oCmp at po
  split at po
  · obtain rfl := rp_int ra; obtain rfl := rp_int rb
    exact .inl ⟨_, _, rfl, rfl, po _ H (Same.refl H) (rpb _) (fresh_no rfl)⟩
  · obtain rfl := rp_str ra; obtain rfl := rp_str rb
    refine .inr ⟨_, _, rfl, rfl, ?_⟩
    rw [S_list, S_list]
    exact po _ H (Same.refl H) (rpb _) (fresh_no rfl)
  · exact po.elim
abbrev oLt := oCmp (fun i j => decide (i < j)) (fun x y => decide (x < y))
abbrev oLe := oCmp (fun i j => decide (i ≤ j)) (fun x y => !decide (y < x))
abbrev oGt := oCmp (fun i j => decide (j < i)) (fun x y => decide (y < x))
abbrev oGe := oCmp (fun i j => decide (j ≤ i)) (fun x y => !decide (x < y))
theorem or_lt {X : Cx} : OpR X (compareOp .Lt) (rCmpA (fun i j => decide (i < j)) (fun x y => decide (x < y))) := OpR.or op_lt op_lt_str
theorem or_le {X : Cx} : OpR X (compareOp .LtE) (rCmpA (fun i j => decide (i ≤ j)) (fun x y => !decide (y < x))) := OpR.or op_le op_le_str
theorem or_gt {X : Cx} : OpR X (compareOp .Gt) (rCmpA (fun i j => decide (j < i)) (fun x y => decide (y < x))) := OpR.or op_gt op_gt_str
theorem or_ge {X : Cx} : OpR X (compareOp .GtE) (rCmpA (fun i j => decide (j ≤ i)) (fun x y => !decide (x < y))) := OpR.or op_ge op_ge_str
/-! ### == and != -/
mutual
def toPy : D → PyData
  | .none => .none
  | .bool b => .bool b
  | .int i => .int i
  | .str l => .str (S l)
  | .list l => .list (toPyAll l)
  | .tuple l => .tuple (toPyAll l)
  | .dicK _ _ => .dict []
  | .dicT _ _ => .dict []
  | .scr _ => .dict []
  | .adr _ => .dict []
  | .obj _ _ _ _ => .dict []
  | .fzl l => .list (toPyAll l)
def toPyAll : List D → List PyData
  | [] => []
  | d :: r => toPy d :: toPyAll r
end
/-! data that == tells apart at any depth (to n) -/
mutual
def shp : Nat → D → Bool
  | _, .none | _, .bool _ | _, .int _ => true
  | _, .str l => l.all (· < 0x110000)
  | 0, .list _ | 0, .tuple _ => false
  | n + 1, .list l => shpAll n l
  | n + 1, .tuple l => shpAll n l
  | _, .dicK _ _ | _, .dicT _ _ | _, .scr _ | _, .adr _ | _, .obj _ _ _ _ => false
  | 0, .fzl _ => false
  | n + 1, .fzl l => shpAll n l
def shpAll : Nat → List D → Bool
  | _, [] => true
  | n, d :: r => shp n d && shpAll n r
end
end
end DL
namespace DL
open PySem L2
section
variable {K : Fg} {cl : Nat → Addr}
mutual
theorem Rp.dp {H : Hp} : ∀ (n : Nat) (d : D) (v : V), shp n d = true → Rp K H d v → Dp K H v (toPy d)
  | _, .none, _, _, h => by obtain rfl := rp_non h; unfold toPy; exact .non
  | _, .bool b, _, _, h => by obtain rfl := rp_bl h; unfold toPy; exact .bl b
  | _, .int b, _, _, h => by obtain rfl := rp_int h; unfold toPy; exact .int b
  | _, .str b, _, _, h => by obtain rfl := rp_str h; unfold toPy; exact .str _
  | 0, .list l, _, s, _ => by unfold shp at s; cases s
  | 0, .tuple l, _, s, _ => by unfold shp at s; cases s
  | n + 1, .list l, _, s, h => by
    obtain ⟨a, xs, rfl, ha, hx⟩ := rp_list h
    unfold shp at s
    unfold toPy
    exact .lst (Or.inl (Or.inl ha)) (RpAll.dp n l xs s hx)
  | n + 1, .tuple l, _, s, h => by
    obtain ⟨a, xs, rfl, ha, hx⟩ := rp_tup h
    unfold shp at s
    unfold toPy
    exact .tup ha (RpAll.dp n l xs s hx)
  | _, .dicK _ _, _, s, _ => by unfold shp at s; cases s
  | _, .dicT _ _, _, s, _ => by unfold shp at s; cases s
  | _, .scr _, _, s, _ => by unfold shp at s; cases s
  | _, .adr _, _, s, _ => by unfold shp at s; cases s
  | _, .obj _ _ _ _, _, s, _ => by unfold shp at s; cases s
  | 0, .fzl l, _, s, _ => by unfold shp at s; cases s
  | n + 1, .fzl l, _, s, h => by
    unfold Rp at h
    obtain ⟨a, o, xs, rfl, ha, hx⟩ := h
    unfold shp at s
    unfold toPy
    exact .lst (Or.inl (Or.inr ⟨o, ha⟩)) (RpAll.dp n l xs s hx)
theorem RpAll.dp {H : Hp} : ∀ (n : Nat) (ds : List D) (vs : List V), shpAll n ds = true → RpAll K H ds vs → DpAll K H vs (toPyAll ds)
  | _, [], _, _, h => by unfold RpAll at h; subst h; unfold toPyAll; exact .nil
  | n, d :: ds, _, s, h => by
    unfold RpAll at h
    obtain ⟨v, r, rfl, h1, h2⟩ := h
    unfold shpAll at s
    rw [Bool.and_eq_true] at s
    unfold toPyAll
    exact .cons (Rp.dp n d v s.1 h1) (RpAll.dp n ds r s.2 h2)
end
mutual
theorem shp_lay : ∀ (n : Nat) (d : D), shp n d = true → (toPy d).canLay0 = true ∧ (toPy d).depth ≤ n
  | _, .none, _ => by unfold toPy PyData.canLay0 PyData.depth; exact ⟨rfl, Nat.zero_le _⟩
  | _, .bool b, _ => by unfold toPy PyData.canLay0 PyData.depth; exact ⟨rfl, Nat.zero_le _⟩
  | _, .int b, _ => by unfold toPy PyData.canLay0 PyData.depth; exact ⟨rfl, Nat.zero_le _⟩
  | _, .str b, s => by
    unfold shp at s
    unfold toPy PyData.canLay0 PyData.depth
    refine ⟨?_, Nat.zero_le _⟩
    unfold PyData.strOk S
    simpa using s
  | 0, .list l, s => by unfold shp at s; cases s
  | 0, .tuple l, s => by unfold shp at s; cases s
  | n + 1, .list l, s => by
    unfold shp at s
    have ih := shp_layAll n l s
    unfold toPy PyData.canLay0 PyData.depth
    exact ⟨ih.1, Nat.succ_le_succ ih.2⟩
  | n + 1, .tuple l, s => by
    unfold shp at s
    have ih := shp_layAll n l s
    unfold toPy PyData.canLay0 PyData.depth
    exact ⟨ih.1, Nat.succ_le_succ ih.2⟩
  | _, .dicK _ _, s => by unfold shp at s; cases s
  | _, .dicT _ _, s => by unfold shp at s; cases s
  | _, .scr _, s => by unfold shp at s; cases s
  | _, .adr _, s => by unfold shp at s; cases s
  | _, .obj _ _ _ _, s => by unfold shp at s; cases s
  | 0, .fzl l, s => by unfold shp at s; cases s
  | n + 1, .fzl l, s => by
    unfold shp at s
    have ih := shp_layAll n l s
    unfold toPy PyData.canLay0 PyData.depth
    exact ⟨ih.1, Nat.succ_le_succ ih.2⟩
theorem shp_layAll : ∀ (n : Nat) (ds : List D), shpAll n ds = true → PyData.canLayAll0 (toPyAll ds) = true ∧ PyData.depthAll (toPyAll ds) ≤ n
  | _, [], _ => by unfold toPyAll PyData.canLayAll0 PyData.depthAll; exact ⟨rfl, Nat.zero_le _⟩
  | n, d :: ds, s => by
    unfold shpAll at s
    rw [Bool.and_eq_true] at s
    have h1 := shp_lay n d s.1
    have h2 := shp_layAll n ds s.2
    unfold toPyAll PyData.canLayAll0 PyData.depthAll
    rw [h1.1, h2.1]
    exact ⟨rfl, Nat.max_le.mpr ⟨h1.2, h2.2⟩⟩
end
theorem shp_shaped {d : D} (h : shp 10 d = true) : SeqAt.shaped (toPy d) = true := by
  have := shp_lay 10 d h
  unfold SeqAt.shaped
  rw [this.1, Bool.true_and]
  exact decide_eq_true (Nat.le_trans this.2 (by decide))
/-- == -/
def deq (a b : D) : Bool := PyData.eqv (toPy a) (toPy b)
def oEqB : D → D → Res Bool
  | .int i, .int j => .ok (decide (i = j))
  | .str x, .str y => .ok (decide (x = y))
  | .bool x, .bool y => .ok (decide (x = y))
  | .none, .none => .ok true
  | .none, .int _ => .ok false
  | .int _, .none => .ok false
  | .none, .str _ => .ok false
  | .str _, .none => .ok false
  | .int _, .str _ => .ok false
  | .str _, .int _ => .ok false
  | a, b => Res.need (shp 10 a = true ∧ shp 10 b = true) (.ok (deq a b))
def oEq (a b : D) : Res D := (oEqB a b).bind fun c => .ok (.bool c)
def oNe (a b : D) : Res D := (oEqB a b).bind fun c => .ok (.bool (!c))
theorem oEqB_ne (a b : D) (c : Nat) : oEqB a b ≠ .exc c := by
  unfold oEqB
  split <;> (try (intro z; cases z; done))
  unfold Res.need
  split <;> (intro z; cases z)
theorem oEq_ne (a b : D) : noExc (oEq a b) := fun c => by
  unfold oEq
  cases h : oEqB a b with
  | ok r => intro z; cases z
  | exc k => exact (oEqB_ne a b k h).elim
  | stuck => intro z; cases z
theorem oNe_ne (a b : D) : noExc (oNe a b) := fun c => by
  unfold oNe
  cases h : oEqB a b with
  | ok r => intro z; cases z
  | exc k => exact (oEqB_ne a b k h).elim
  | stuck => intro z; cases z
def rEqA (K : Fg) (n : Bool) : R2 := fun x y H Q => (scal x y = true ∧ Q (.bl (if n then !decide (x = y) else decide (x = y))) H) ∨ ∃ d e, Dp K H x d ∧ Dp K H y e ∧ SeqAt.shaped d = true ∧ SeqAt.shaped e = true ∧ Q (.bl (if n then !PyData.eqv d e else PyData.eqv d e)) H
theorem or_eq {X : Cx} (hu : X.A.units + 64 < cLine) : OpR X (compareOp .Eq) (rEqA X.K false) := OpR.or op_eq (op_eqD hu)
theorem or_ne {X : Cx} (hu : X.A.units + 64 < cLine) : OpR X (compareOp .NotEq) (rEqA X.K true) := OpR.or op_ne (op_neD hu)
theorem sim_eqB {n : Bool} : SimR K cl (rEqA K n) (fun a b => (oEqB a b).bind fun c => .ok (.bool (if n then !c else c))) := by
  intro x y a b σ H Q ra rb po
  change PostF K cl _ σ H ((oEqB a b).bind _) Q at po
  unfold oEqB at po
  split at po
  · obtain rfl := rp_int ra; obtain rfl := rp_int rb
    refine .inl ⟨rfl, ?_⟩
    have h := po _ H (Same.refl H) (rpb _) (fresh_no rfl)
    simpa using h
  · rename_i p q
    obtain rfl := rp_str ra; obtain rfl := rp_str rb
    refine .inl ⟨rfl, ?_⟩
    have h := po _ H (Same.refl H) (rpb _) (fresh_no rfl)
    have e : decide (V.str (S p) = V.str (S q)) = decide (p = q) := by
      by_cases hpq : p = q
      · rw [hpq, decide_eq_true rfl, decide_eq_true rfl]
      · rw [decide_eq_false hpq, decide_eq_false (fun z => hpq (S_inj (V.str.inj z)))]
    rw [e]
    exact h
  · obtain rfl := rp_bl ra; obtain rfl := rp_bl rb
    refine .inl ⟨rfl, ?_⟩
    have h := po _ H (Same.refl H) (rpb _) (fresh_no rfl)
    simpa using h
  · obtain rfl := rp_non ra; obtain rfl := rp_non rb
    exact .inl ⟨rfl, by have h := po _ H (Same.refl H) (rpb _) (fresh_no rfl); simpa using h⟩
  · obtain rfl := rp_non ra; obtain rfl := rp_int rb
    exact .inl ⟨rfl, by have h := po _ H (Same.refl H) (rpb _) (fresh_no rfl); simpa using h⟩
  · obtain rfl := rp_int ra; obtain rfl := rp_non rb
    exact .inl ⟨rfl, by have h := po _ H (Same.refl H) (rpb _) (fresh_no rfl); simpa using h⟩
  · obtain rfl := rp_non ra; obtain rfl := rp_str rb
    exact .inl ⟨rfl, by have h := po _ H (Same.refl H) (rpb _) (fresh_no rfl); simpa using h⟩
  · obtain rfl := rp_str ra; obtain rfl := rp_non rb
    exact .inl ⟨rfl, by have h := po _ H (Same.refl H) (rpb _) (fresh_no rfl); simpa using h⟩
  · obtain rfl := rp_int ra; obtain rfl := rp_str rb
    exact .inl ⟨rfl, by have h := po _ H (Same.refl H) (rpb _) (fresh_no rfl); simpa using h⟩
  · obtain rfl := rp_str ra; obtain rfl := rp_int rb
    exact .inl ⟨rfl, by have h := po _ H (Same.refl H) (rpb _) (fresh_no rfl); simpa using h⟩
  · unfold Res.need at po
    split at po
    · rename_i hc
      exact .inr ⟨_, _, Rp.dp 10 _ _ hc.1 ra, Rp.dp 10 _ _ hc.2 rb, shp_shaped hc.1, shp_shaped hc.2, po _ H (Same.refl H) (rpb _) (fresh_no rfl)⟩
    · exact po.elim
theorem sim_eq : SimR K cl (rEqA K false) oEq := fun x y a b σ H Q ra rb po => sim_eqB x y a b σ H Q ra rb po
theorem sim_ne : SimR K cl (rEqA K true) oNe := fun x y a b σ H Q ra rb po => sim_eqB x y a b σ H Q ra rb po
/-! ### in, not in -/
def oInB : D → D → Res Bool
  | .str [c], .str z => .ok (decide (c ∈ z))
  | _, _ => .stuck
def oIn (a b : D) : Res D := (oInB a b).bind fun c => .ok (.bool c)
def oNi (a b : D) : Res D := (oInB a b).bind fun c => .ok (.bool (!c))
theorem oInB_ne (a b : D) (c : Nat) : oInB a b ≠ .exc c := by
  unfold oInB
  split <;> (intro z; cases z)
theorem oIn_ne (a b : D) : noExc (oIn a b) := fun c => by
  unfold oIn
  cases h : oInB a b with
  | ok r => intro z; cases z
  | exc k => exact (oInB_ne a b k h).elim
  | stuck => intro z; cases z
theorem oNi_ne (a b : D) : noExc (oNi a b) := fun c => by
  unfold oNi
  cases h : oInB a b with
  | ok r => intro z; cases z
  | exc k => exact (oInB_ne a b k h).elim
  | stuck => intro z; cases z
def rInA (n : Bool) : R2 := fun x y H Q => ∃ (c : Nat) (z : Str), x = .str ⟨#[c]⟩ ∧ y = .str z ∧ Q (.bl (if n then !decide (c ∈ z.cps.toList) else decide (c ∈ z.cps.toList))) H
theorem or_in {X : Cx} : OpR X (compareOp .In) (rInA false) := op_in_sign
theorem or_ni {X : Cx} : OpR X (compareOp .NotIn) (rInA true) := op_notIn_sign
theorem sim_inB {n : Bool} : SimR K cl (rInA n) (fun a b => (oInB a b).bind fun c => .ok (.bool (if n then !c else c))) := by
  intro x y a b σ H Q ra rb po
  change PostF K cl _ σ H ((oInB a b).bind _) Q at po
  unfold oInB at po
  split at po
  · obtain rfl := rp_str ra; obtain rfl := rp_str rb
    exact ⟨_, _, rfl, rfl, by rw [S_list]; exact po _ H (Same.refl H) (rpb _) (fresh_no rfl)⟩
  · exact po.elim
theorem sim_in : SimR K cl (rInA false) oIn := fun x y a b σ H Q ra rb po => sim_inB x y a b σ H Q ra rb po
theorem sim_ni : SimR K cl (rInA true) oNi := fun x y a b σ H Q ra rb po => sim_inB x y a b σ H Q ra rb po
/-! ### x[i] -/
def ofO (o : Option D) : Res D := match o with
  | some d => if isBox d then .stuck else .ok d
  | none => .stuck
theorem ofO_ne (o : Option D) : noExc (ofO o) := by
  unfold ofO
  split
  · split
    · exact stuck_noExc
    · exact ok_noExc
  · exact stuck_noExc
def oIx : D → D → Res D
  | .tuple l, .int i => ofO (atI l i)
  | .list l, .int i => ofO (atI l i)
  | .str l, .int i => Res.need (l.length ≤ big) (ofO ((atI l i).map fun c => .str [c]))
  | .scr l, .int i => ofO ((atI l i).map fun c => .int c)
  | _, _ => .stuck
theorem oIx_ne (a b : D) : noExc (oIx a b) := by
  unfold oIx
  split
  · exact ofO_ne _
  · exact ofO_ne _
  · exact need_noExc (ofO_ne _)
  · exact ofO_ne _
  · exact stuck_noExc
theorem RpAll.atI {H : Hp} {l : List D} {xs : List V} {i : Int} {d : D} (h : RpAll K H l xs) (e : atI l i = some d) : ∃ v, L2.atI xs i = some v ∧ Rp K H d v := by
  unfold L2.atI at e ⊢
  rw [h.length]
  cases r : ixN l.length i with
  | none => rw [r] at e; cases e
  | some j =>
    rw [r] at e
    obtain ⟨v, h1, h2⟩ := h.get' (i := j) e
    exact ⟨v, h1, h2⟩
theorem ofO_on {o : Option D} {k : D → Prop} {e : Nat → Prop} (h : (ofO o).on k e) : ∃ d, o = some d ∧ isBox d = false ∧ k d := by
  unfold ofO at h
  split at h
  · rename_i d
    cases b : isBox d with
    | true => rw [b] at h; exact h.elim
    | false => rw [b] at h; exact ⟨d, rfl, b, h⟩
  · exact h.elim
theorem sim_ix : SimR K cl (rIx K) oIx := by
  intro x y a b σ H Q ra rb po
  unfold oIx at po
  split at po
  · obtain ⟨p, xs, rfl, hp, hx⟩ := rp_tup ra; obtain rfl := rp_int rb
    obtain ⟨d, e, nb, po⟩ := ofO_on po
    obtain ⟨v, h1, h2⟩ := hx.atI e
    exact .inr (.inl ⟨p, xs, _, v, rfl, rfl, hp, h1, po _ H (Same.refl H) h2 (fresh_no nb)⟩)
  · obtain ⟨p, xs, rfl, hp, hx⟩ := rp_list ra; obtain rfl := rp_int rb
    obtain ⟨d, e, nb, po⟩ := ofO_on po
    obtain ⟨v, h1, h2⟩ := hx.atI e
    exact .inl ⟨p, xs, _, v, rfl, rfl, Or.inl (Or.inl hp), h1, po _ H (Same.refl H) h2 (fresh_no nb)⟩
  · rename_i l i
    obtain rfl := rp_str ra; obtain rfl := rp_int rb
    obtain ⟨hc, po⟩ := need_on po
    obtain ⟨d, e, nb, po⟩ := ofO_on po
    cases e2 : L2.atI l i with
    | none => rw [e2] at e; cases e
    | some c =>
      rw [e2] at e
      cases e
      refine .inr (.inr ⟨S l, i, c, rfl, rfl, by rw [S_len]; exact big_le hc, by rw [S_list]; exact e2, ?_⟩)
      exact po _ H (Same.refl H) (rps _) (fresh_no rfl)
  · rename_i l i
    unfold Rp at ra
    obtain ⟨p, rfl, hp⟩ := ra
    obtain rfl := rp_int rb
    obtain ⟨d, e, nb, po⟩ := ofO_on po
    cases e2 : L2.atI l i with
    | none => rw [e2] at e; cases e
    | some c =>
      rw [e2] at e
      cases e
      refine .inl ⟨p, _, i, .int c, rfl, rfl, hp, ?_, po _ H (Same.refl H) (rpi _) (fresh_no rfl)⟩
      unfold L2.atI at e2 ⊢
      rw [List.length_map]
      cases r : ixN l.length i with
      | none => rw [r] at e2; cases e2
      | some j =>
        rw [r] at e2
        have e3 : l[j]? = some c := e2
        show (l.map V.int)[j]? = some (V.int c)
        rw [List.getElem?_map, e3]
        rfl
  · exact po.elim
end
section
variable {X : Cx} {cl : Nat → Addr} {W : WX}
theorem q_add {a b : Expr} {pos : Pos} {ta tb : TE} {f h : Dv → Res D} (ha : QE X cl W a ta f) (hb : QE X cl W b tb h) : QF X cl W (.BinOp a .Add b pos) (tOp (rAddA X.K) ta tb) (d2 oAdd f h) := q_op or_add sim_add oAdd_ne ha hb
theorem q_sub {a b : Expr} {pos : Pos} {ta tb : TE} {f h : Dv → Res D} (ha : QE X cl W a ta f) (hb : QE X cl W b tb h) : QF X cl W (.BinOp a .Sub b pos) (tOp (rI0 fun i j => .int (i - j)) ta tb) (d2 oSub f h) := q_op op_sub sim_sub oSub_ne ha hb
theorem q_mul {a b : Expr} {pos : Pos} {ta tb : TE} {f h : Dv → Res D} (ha : QE X cl W a ta f) (hb : QE X cl W b tb h) : QF X cl W (.BinOp a .Mult b pos) (tOp rMulA ta tb) (d2 oMul f h) := q_op or_mul sim_mul oMul_ne ha hb
theorem q_mod {a b : Expr} {pos : Pos} {ta tb : TE} {f h : Dv → Res D} (ha : QE X cl W a ta f) (hb : QE X cl W b tb h) : QF X cl W (.BinOp a .Mod b pos) (tOp (rI (fun _ j => 0 < j) fun i j => .int (i % j)) ta tb) (d2 oMod f h) := q_op op_mod sim_mod oMod_ne ha hb
theorem q_div {a b : Expr} {pos : Pos} {ta tb : TE} {f h : Dv → Res D} (ha : QE X cl W a ta f) (hb : QE X cl W b tb h) : QF X cl W (.BinOp a .FloorDiv b pos) (tOp (rI CDiv fun i j => .int (i / j)) ta tb) (d2 oDiv f h) := q_op op_fdiv sim_div oDiv_ne ha hb
theorem q_lt {a b : Expr} {pos : Pos} {ta tb : TE} {f h : Dv → Res D} (ha : QE X cl W a ta f) (hb : QE X cl W b tb h) : QF X cl W (.Compare a [.Lt] [b] pos) (tOp (rCmpA (fun i j => decide (i < j)) (fun x y => decide (x < y))) ta tb) (d2 oLt f h) := q_cmp or_lt sim_cmp (oCmp_ne _ _) ha hb (nomark _)
theorem q_le {a b : Expr} {pos : Pos} {ta tb : TE} {f h : Dv → Res D} (ha : QE X cl W a ta f) (hb : QE X cl W b tb h) : QF X cl W (.Compare a [.LtE] [b] pos) (tOp (rCmpA (fun i j => decide (i ≤ j)) (fun x y => !decide (y < x))) ta tb) (d2 oLe f h) := q_cmp or_le sim_cmp (oCmp_ne _ _) ha hb (nomark _)
theorem q_gt {a b : Expr} {pos : Pos} {ta tb : TE} {f h : Dv → Res D} (ha : QE X cl W a ta f) (hb : QE X cl W b tb h) : QF X cl W (.Compare a [.Gt] [b] pos) (tOp (rCmpA (fun i j => decide (j < i)) (fun x y => decide (y < x))) ta tb) (d2 oGt f h) := q_cmp or_gt sim_cmp (oCmp_ne _ _) ha hb (nomark _)
theorem q_ge {a b : Expr} {pos : Pos} {ta tb : TE} {f h : Dv → Res D} (ha : QE X cl W a ta f) (hb : QE X cl W b tb h) : QF X cl W (.Compare a [.GtE] [b] pos) (tOp (rCmpA (fun i j => decide (j ≤ i)) (fun x y => !decide (x < y))) ta tb) (d2 oGe f h) := q_cmp or_ge sim_cmp (oCmp_ne _ _) ha hb (nomark _)
theorem q_eq {a b : Expr} {pos : Pos} {ta tb : TE} {f h : Dv → Res D} (hu : X.A.units + 64 < cLine) (ha : QE X cl W a ta f) (hb : QE X cl W b tb h) : QF X cl W (.Compare a [.Eq] [b] pos) (tOp (rEqA X.K false) ta tb) (d2 oEq f h) := q_cmp (or_eq hu) sim_eq oEq_ne ha hb (nomark _)
theorem q_ne {a b : Expr} {pos : Pos} {ta tb : TE} {f h : Dv → Res D} (hu : X.A.units + 64 < cLine) (ha : QE X cl W a ta f) (hb : QE X cl W b tb h) : QF X cl W (.Compare a [.NotEq] [b] pos) (tOp (rEqA X.K true) ta tb) (d2 oNe f h) := q_cmp (or_ne hu) sim_ne oNe_ne ha hb (nomark _)
theorem q_in {a b : Expr} {pos : Pos} {ta tb : TE} {f h : Dv → Res D} (ha : QE X cl W a ta f) (hb : QE X cl W b tb h) (hm : behindInMarks .In b = false := by rfl) : QF X cl W (.Compare a [.In] [b] pos) (tOp (rInA false) ta tb) (d2 oIn f h) := q_cmp or_in sim_in oIn_ne ha hb hm
theorem q_ni {a b : Expr} {pos : Pos} {ta tb : TE} {f h : Dv → Res D} (ha : QE X cl W a ta f) (hb : QE X cl W b tb h) (hm : behindInMarks .NotIn b = false := by rfl) : QF X cl W (.Compare a [.NotIn] [b] pos) (tOp (rInA true) ta tb) (d2 oNi f h) := q_cmp or_ni sim_ni oNi_ne ha hb hm
theorem q_sub_ {a b : Expr} {pos : Pos} {ta tb : TE} {f h : Dv → Res D} (ha : QE X cl W a ta f) (hb : QE X cl W b tb h) (hs : PlainIx b := by exact fun _ _ => rfl) : QF X cl W (.Subscript a b pos) (tOp (rIx X.K) ta tb) (d2 oIx f h) := q_ix ix_seq sim_ix oIx_ne ha hb hs
theorem t_lt {a b : Expr} {pos : Pos} {ta tb : TE} {f h : Dv → Res D} (ha : QE X cl W a ta f) (hb : QE X cl W b tb h) : QT X cl W (.Compare a [.Lt] [b] pos) (tTest (tOp (rCmpA (fun i j => decide (i < j)) (fun x y => decide (x < y))) ta tb)) (dB (d2 oLt f h)) := qt_cmp or_lt sim_cmp (oCmp_ne _ _) ha hb (nomark _)
theorem t_le {a b : Expr} {pos : Pos} {ta tb : TE} {f h : Dv → Res D} (ha : QE X cl W a ta f) (hb : QE X cl W b tb h) : QT X cl W (.Compare a [.LtE] [b] pos) (tTest (tOp (rCmpA (fun i j => decide (i ≤ j)) (fun x y => !decide (y < x))) ta tb)) (dB (d2 oLe f h)) := qt_cmp or_le sim_cmp (oCmp_ne _ _) ha hb (nomark _)
theorem t_gt {a b : Expr} {pos : Pos} {ta tb : TE} {f h : Dv → Res D} (ha : QE X cl W a ta f) (hb : QE X cl W b tb h) : QT X cl W (.Compare a [.Gt] [b] pos) (tTest (tOp (rCmpA (fun i j => decide (j < i)) (fun x y => decide (y < x))) ta tb)) (dB (d2 oGt f h)) := qt_cmp or_gt sim_cmp (oCmp_ne _ _) ha hb (nomark _)
theorem t_ge {a b : Expr} {pos : Pos} {ta tb : TE} {f h : Dv → Res D} (ha : QE X cl W a ta f) (hb : QE X cl W b tb h) : QT X cl W (.Compare a [.GtE] [b] pos) (tTest (tOp (rCmpA (fun i j => decide (j ≤ i)) (fun x y => !decide (x < y))) ta tb)) (dB (d2 oGe f h)) := qt_cmp or_ge sim_cmp (oCmp_ne _ _) ha hb (nomark _)
theorem t_eq {a b : Expr} {pos : Pos} {ta tb : TE} {f h : Dv → Res D} (hu : X.A.units + 64 < cLine) (ha : QE X cl W a ta f) (hb : QE X cl W b tb h) : QT X cl W (.Compare a [.Eq] [b] pos) (tTest (tOp (rEqA X.K false) ta tb)) (dB (d2 oEq f h)) := qt_cmp (or_eq hu) sim_eq oEq_ne ha hb (nomark _)
theorem t_ne {a b : Expr} {pos : Pos} {ta tb : TE} {f h : Dv → Res D} (hu : X.A.units + 64 < cLine) (ha : QE X cl W a ta f) (hb : QE X cl W b tb h) : QT X cl W (.Compare a [.NotEq] [b] pos) (tTest (tOp (rEqA X.K true) ta tb)) (dB (d2 oNe f h)) := qt_cmp (or_ne hu) sim_ne oNe_ne ha hb (nomark _)
theorem t_in {a b : Expr} {pos : Pos} {ta tb : TE} {f h : Dv → Res D} (ha : QE X cl W a ta f) (hb : QE X cl W b tb h) (hm : behindInMarks .In b = false := by rfl) : QT X cl W (.Compare a [.In] [b] pos) (tTest (tOp (rInA false) ta tb)) (dB (d2 oIn f h)) := qt_cmp or_in sim_in oIn_ne ha hb hm
theorem t_ni {a b : Expr} {pos : Pos} {ta tb : TE} {f h : Dv → Res D} (ha : QE X cl W a ta f) (hb : QE X cl W b tb h) (hm : behindInMarks .NotIn b = false := by rfl) : QT X cl W (.Compare a [.NotIn] [b] pos) (tTest (tOp (rInA true) ta tb)) (dB (d2 oNi f h)) := qt_cmp or_ni sim_ni oNi_ne ha hb hm
end
end DL
namespace DL
open PySem L2
section
variable {X : Cx} {cl : Nat → Addr} {W : WX}
theorem SimT.chain {K : Fg} {te : TT} {f : Dv → Res Bool} {β : Type} {k : Bool → Res β} {δ : Dv} {σ : L2.St} {H : Hp} {Q : Bool → Hp → Prop} {P : Hp → Res β → Prop} (s : SimT K cl W te f) (en : EnvD K H σ δ)
    (po : P H ((f δ).bind k)) (hx : ∀ c, P H (.exc c) → ∀ H', Same H H' → W (.ref (cl c)) none σ H') (hst : ∀ H, ¬ P H .stuck)
    (hk : ∀ d H', f δ = .ok d → Same H H' → P H (k d) → Q d H') : te σ H Q := by
  refine s δ σ H Q en ?_
  cases r : f δ with
  | ok d => rw [r, Res.ok_bind] at po; exact fun H' sm => hk d H' r sm po
  | exc c => rw [r] at po; exact hx c po
  | stuck => rw [r] at po; exact (hst H po).elim
theorem SimA.chain {K : Fg} {te : TA} {f : Dv → Res (List D)} {β : Type} {k : List D → Res β} {δ : Dv} {σ : L2.St} {H : Hp} {Q : List V → Hp → Prop} {P : Hp → Res β → Prop} (s : SimA K cl W te f) (en : EnvD K H σ δ)
    (po : P H ((f δ).bind k)) (hx : ∀ c, P H (.exc c) → ∀ H', Same H H' → W (.ref (cl c)) none σ H') (hst : ∀ H, ¬ P H .stuck)
    (hk : ∀ d vs H', f δ = .ok d → Same H H' → RpAll K H' d vs → P H (k d) → Q vs H') : te σ H Q := by
  refine s δ σ H Q en ?_
  cases r : f δ with
  | ok d => rw [r, Res.ok_bind] at po; exact fun vs H' sm q => hk d vs H' r sm q po
  | exc c => rw [r] at po; exact hx c po
  | stuck => rw [r] at po; exact (hst H po).elim
/-! ### tests -/
def bAnd (f g : Dv → Res Bool) : Dv → Res Bool := fun δ => (f δ).bind fun c => if c = true then g δ else .ok false
def bOr (f g : Dv → Res Bool) : Dv → Res Bool := fun δ => (f δ).bind fun c => if c = true then .ok true else g δ
def bNot (f : Dv → Res Bool) : Dv → Res Bool := fun δ => (f δ).bind fun c => .ok (!c)
variable {a b c e : Expr} {es rest : List Expr} {pos : Pos} {ta tb : TE} {t u : TT} {f h : Dv → Res D} {g k : Dv → Res Bool}
theorem w_and1 (ha : QT X cl W a t g) : QW X cl W (.BoolOp .And [a] pos) t g := ⟨pw_and1 ha.pe, ha.sim⟩
theorem w_or1 (ha : QT X cl W a t g) : QW X cl W (.BoolOp .Or [a] pos) t g := ⟨pw_or1 ha.pe, ha.sim⟩
theorem w_and (ha : QT X cl W a t g) (hb : QW X cl W (.BoolOp .And (b :: rest) pos) u k) : QW X cl W (.BoolOp .And (a :: b :: rest) pos) (tAnd t u) (bAnd g k) := by
  refine ⟨pw_and ha.pe hb.pe, fun δ σ H Q en po => ?_⟩
  show t σ H _
  refine ha.sim.chain (P := fun H r => PostB cl W σ H r Q) en po (fun c h => h) (fun H h => h) fun d H1 _ s1 p1 => ?_
  cases d with
  | true => exact hb.sim δ σ H1 Q (en.mono s1) (PostB.weak s1 p1)
  | false => exact p1 H1 s1
theorem w_or (ha : QT X cl W a t g) (hb : QW X cl W (.BoolOp .Or (b :: rest) pos) u k) : QW X cl W (.BoolOp .Or (a :: b :: rest) pos) (tOr t u) (bOr g k) := by
  refine ⟨pw_or ha.pe hb.pe, fun δ σ H Q en po => ?_⟩
  show t σ H _
  refine ha.sim.chain (P := fun H r => PostB cl W σ H r Q) en po (fun c h => h) (fun H h => h) fun d H1 _ s1 p1 => ?_
  cases d with
  | true => exact p1 H1 s1
  | false => exact hb.sim δ σ H1 Q (en.mono s1) (PostB.weak s1 p1)
theorem t_not (ha : QT X cl W a t g) : QT X cl W (.UnaryOp .Not a pos) (tNot t) (bNot g) := by
  refine ⟨pt_not ha.pe, fun δ σ H Q en po => ?_⟩
  show t σ H _
  exact ha.sim.chain (P := fun H r => PostB cl W σ H r Q) en po (fun c h => h) (fun H h => h) fun d H1 _ s1 p1 => p1 H1 s1
/-- a value's truth -/
def truth : D → Res Bool
  | .none => .ok false
  | .bool b => .ok b
  | .int i => .ok (i != 0)
  | .str l => Res.need (l.length ≤ big) (.ok (!l.isEmpty))
  | .list l => .ok (!l.isEmpty)
  | .tuple l => .ok (!l.isEmpty)
  | _ => .stuck
def dT (f : Dv → Res D) : Dv → Res Bool := fun δ => (f δ).bind truth
theorem emp_len {α β : Type} {l : List α} {m : List β} (h : m.length = l.length) : (!m.isEmpty) = !l.isEmpty := by
  cases l <;> cases m <;> simp_all
theorem truth_ok {K : Fg} {H : Hp} {d : D} {v : V} {r : Bool} (hr : Rp K H d v) (ht : truth d = .ok r) : TruV K v H r := by
  unfold truth at ht
  split at ht
  · obtain rfl := rp_non hr; cases ht; rfl
  · obtain rfl := rp_bl hr; cases ht; rfl
  · obtain rfl := rp_int hr; cases ht; rfl
  · rename_i l
    obtain rfl := rp_str hr
    unfold Res.need at ht
    split at ht
    · rename_i hc
      cases ht
      refine ⟨by rw [S_len]; exact big_le hc, ?_⟩
      rw [S_len]
      cases l with
      | nil => rfl
      | cons a l =>
        show true = (((l.length + 1 : Nat) : Int) != 0)
        symm
        rw [bne_iff_ne]
        omega
    · cases ht
  · obtain ⟨p, xs, rfl, hp, hx⟩ := rp_list hr
    cases ht
    exact .inl ⟨xs, Or.inl (Or.inl hp), (emp_len hx.length).symm⟩
  · obtain ⟨p, xs, rfl, hp, hx⟩ := rp_tup hr
    cases ht
    exact .inr (.inl ⟨xs, hp, (emp_len hx.length).symm⟩)
  · cases ht
theorem truth_ne (d : D) (c : Nat) : truth d ≠ .exc c := by
  unfold truth
  split <;> (try (intro z; cases z; done))
  unfold Res.need
  split <;> (intro z; cases z)
theorem t_val (ha : QE X cl W a ta f) (he : ∀ whole, isTrue a X.env whole = (do let v ← whole; standAt a.pos; holding [v] (truthy v)) := by intro _; rfl) : QT X cl W a (fun σ H Q => ta σ H fun x H' => ∃ k, TruV X.K x H' k ∧ Q k H') (dT f) := by
  refine ⟨pt_truth ha.pe he, fun δ σ H Q en po => ?_⟩
  show ta σ H _
  refine ha.sim.chain (P := fun H r => PostB cl W σ H r Q) en po (fun c h => h) (fun H h => h) fun d v H1 _ s1 r1 p1 => ?_
  cases q : truth d with
  | ok r => rw [q] at p1; exact ⟨r, truth_ok r1 q, p1 H1 s1⟩
  | exc c => exact (truth_ne d c q).elim
  | stuck => rw [q] at p1; exact p1.elim
/-! ### values by tests: c if t else d; not, and, or of truths -/
def dIf (g : Dv → Res Bool) (f h : Dv → Res D) : Dv → Res D := fun δ => (g δ).bind fun c => if c = true then f δ else h δ
theorem q_if (hc : QT X cl W c t g) (ha : QE X cl W a ta f) (hb : QE X cl W b tb h) : QE X cl W (.IfExp c a b pos) (tIf t ta tb) (dIf g f h) := by
  refine ⟨pe_ifExp hc.pe ha.pe hb.pe, fun δ σ H Q en po => ?_⟩
  show t σ H _
  refine hc.sim.chain (P := fun H r => PostE X.K cl W σ H r Q) en po (fun c h => h) (fun H h => h) fun d H1 _ s1 p1 => ?_
  cases d with
  | true => exact ha.sim δ σ H1 Q (en.mono s1) (PostE.weak s1 p1)
  | false => exact hb.sim δ σ H1 Q (en.mono s1) (PostE.weak s1 p1)
theorem f_if (hc : QT X cl W c t g) (ha : QF X cl W a ta f) (hb : QF X cl W b tb h) : QF X cl W (.IfExp c a b pos) (tIf t ta tb) (dIf g f h) := by
  refine ⟨pe_ifExp hc.pe ha.pe hb.pe, fun δ σ H Q en po => ?_⟩
  show t σ H _
  refine hc.sim.chain (P := fun H r => PostF X.K cl W σ H r Q) en po (fun c h => h) (fun H h => h) fun d H1 _ s1 p1 => ?_
  cases d with
  | true => exact ha.sim δ σ H1 Q (en.mono s1) (PostF.weak s1 p1)
  | false => exact hb.sim δ σ H1 Q (en.mono s1) (PostF.weak s1 p1)
def asB (d : D) : Res Bool := match d with
  | .bool b => .ok b
  | _ => .stuck
def dAndV (f h : Dv → Res D) : Dv → Res D := fun δ => (f δ).bind fun d => (asB d).bind fun c => if c = true then h δ else .ok (.bool false)
def dOrV (f h : Dv → Res D) : Dv → Res D := fun δ => (f δ).bind fun d => (asB d).bind fun c => if c = true then .ok (.bool true) else h δ
def dNotV (f : Dv → Res D) : Dv → Res D := fun δ => (f δ).bind fun d => (asB d).bind fun c => .ok (.bool (!c))
theorem v_one {op : BoolOp} (ha : QF X cl W a ta f) : QF X cl W (.BoolOp op [a] pos) ta f := ⟨pe_one ha.pe, ha.sim⟩
theorem v_and (ha : QE X cl W a ta f) (hb : QF X cl W (.BoolOp .And (b :: rest) pos) tb h) : QF X cl W (.BoolOp .And (a :: b :: rest) pos) (tAndV ta tb) (dAndV f h) := by
  refine ⟨pe_and ha.pe hb.pe, fun δ σ H Q en po => ?_⟩
  show ta σ H _
  refine ha.sim.chain (P := fun H r => PostF X.K cl W σ H r Q) en po (fun c h => h) (fun H h => h) fun d v H1 _ s1 r1 p1 => ?_
  cases d with
  | bool c =>
    obtain rfl := rp_bl r1
    refine ⟨c, rfl, ?_⟩
    cases c with
    | true => exact hb.sim δ σ H1 Q (en.mono s1) (PostF.weak s1 p1)
    | false => exact p1 _ H1 s1 (rpb _) (fresh_no rfl)
  | _ => exact p1.elim
theorem v_or (ha : QE X cl W a ta f) (hb : QF X cl W (.BoolOp .Or (b :: rest) pos) tb h) : QF X cl W (.BoolOp .Or (a :: b :: rest) pos) (tOrV ta tb) (dOrV f h) := by
  refine ⟨pe_or ha.pe hb.pe, fun δ σ H Q en po => ?_⟩
  show ta σ H _
  refine ha.sim.chain (P := fun H r => PostF X.K cl W σ H r Q) en po (fun c h => h) (fun H h => h) fun d v H1 _ s1 r1 p1 => ?_
  cases d with
  | bool c =>
    obtain rfl := rp_bl r1
    refine ⟨c, rfl, ?_⟩
    cases c with
    | true => exact p1 _ H1 s1 (rpb _) (fresh_no rfl)
    | false => exact hb.sim δ σ H1 Q (en.mono s1) (PostF.weak s1 p1)
  | _ => exact p1.elim
theorem v_not (ha : QE X cl W a ta f) : QF X cl W (.UnaryOp .Not a pos) (tNotV ta) (dNotV f) := by
  refine ⟨pe_not ha.pe, fun δ σ H Q en po => ?_⟩
  show ta σ H _
  refine ha.sim.chain (P := fun H r => PostF X.K cl W σ H r Q) en po (fun c h => h) (fun H h => h) fun d v H1 _ s1 r1 p1 => ?_
  cases d with
  | bool c =>
    obtain rfl := rp_bl r1
    exact ⟨c, rfl, p1 _ H1 s1 (rpb _) (fresh_no rfl)⟩
  | _ => exact p1.elim
/-- -x -/
def oNeg : D → Res D
  | .int i => .ok (.int (-i))
  | _ => .stuck
theorem q_neg (ha : QE X cl W a ta f) : QF X cl W (.UnaryOp .USub a pos) (tUn (rU fun i => .int (-i)) ta) (fun δ => (f δ).bind oNeg) := by
  refine ⟨pe_un un_neg ha.pe, fun δ σ H Q en po => ?_⟩
  show ta σ H _
  refine ha.sim.chain (P := fun H r => PostF X.K cl W σ H r Q) en po (fun c h => h) (fun H h => h) fun d v H1 _ s1 r1 p1 => ?_
  cases d with
  | int i =>
    obtain rfl := rp_int r1
    exact ⟨i, rfl, p1 _ H1 s1 (rpi _) (fresh_no rfl)⟩
  | _ => exact p1.elim
/-! ### chains a < b < c -/
def dChain (g g' : D → D → Res D) (f h l : Dv → Res D) : Dv → Res D := fun δ => (f δ).bind fun x => (h δ).bind fun y => (g x y).bind fun z => (asB z).bind fun k => if k = true then (l δ).bind fun w => g' y w else .ok (.bool false)
theorem chain_sim {tc : TE} {r r' : R2} {g0 g1 : D → D → Res D} {l : Dv → Res D} (sr : SimR X.K cl r g0) (sr' : SimR X.K cl r' g1) (ne : ∀ a b, noExc (g0 a b)) (ne' : ∀ a b, noExc (g1 a b))
    (sa : SimE X.K cl W ta f) (sb : SimE X.K cl W tb h) (sc : SimE X.K cl W tc l) : SimF X.K cl W (tChain r r' ta tb tc) (dChain g0 g1 f h l) := by
  intro δ σ H Q en po
  show ta σ H _
  refine sa.chain (P := fun H r => PostF X.K cl W σ H r Q) en po (fun c h => h) (fun H h => h) fun x u H1 _ s1 r1 p1 => ?_
  show tb σ H1 _
  refine sb.chain (P := fun H r => PostF X.K cl W σ H r Q) (en.mono s1) (p1.weak s1) (fun c h => h) (fun H h => h) fun y v H2 _ s2 r2 p2 => ?_
  have s12 := s1.trans s2
  have p2 := p2.weak s2
  cases q : g0 x y with
  | ok z =>
    rw [q, Res.ok_bind] at p2
    refine sr u v x y σ H2 _ (Rp.mono s2 _ _ r1) r2 ?_
    rw [q]
    intro zv H3 s3 rz _
    cases z with
    | bool c =>
      obtain rfl := rp_bl rz
      refine ⟨c, rfl, ?_⟩
      cases c with
      | false => exact p2 _ H3 s3 (rpb _) (fresh_no rfl)
      | true =>
        show tc σ H3 _
        refine sc.chain (P := fun H r => PostF X.K cl W σ H r Q) (en.mono (s12.trans s3)) (PostF.weak s3 p2) (fun c h => h) (fun H h => h) fun w wv H4 _ s4 r4 p4 => ?_
        refine sr' v wv y w σ H4 Q (Rp.mono (s3.trans s4) _ _ r2) r4 ?_
        have p4 := p4.weak s4
        cases q' : g1 y w with
        | ok d => rw [q'] at p4; exact p4
        | exc c => exact (ne' y w c q').elim
        | stuck => rw [q'] at p4; exact p4
    | _ => exact (show False from p2).elim
  | exc c => exact (ne x y c q).elim
  | stuck => rw [q] at p2; exact (show False from p2).elim
theorem t_chain {tc : TE} {op op' : CmpOp} {r r' : R2} {g0 g1 : D → D → Res D} {l : Dv → Res D} (ho : OpR X (compareOp op) r) (ho' : OpR X (compareOp op') r') (sr : SimR X.K cl r g0) (sr' : SimR X.K cl r' g1) (ne : ∀ a b, noExc (g0 a b)) (ne' : ∀ a b, noExc (g1 a b))
    (ha : QE X cl W a ta f) (hb : QE X cl W b tb h) (hc : QE X cl W c tc l) (hm : lastMarks [op, op'] [b, c] = false := by with_unfolding_all rfl) : QT X cl W (.Compare a [op, op'] [b, c] pos) (tTest (tChain r r' ta tb tc)) (dB (dChain g0 g1 f h l)) :=
  ⟨pt_chain ho ho' ha.pe hb.pe hc.pe hm, tTest_sim fun δ σ H Q en po => chain_sim sr sr' ne ne' ha.sim hb.sim hc.sim δ σ H Q en po.toF⟩
theorem q_chain {tc : TE} {op op' : CmpOp} {r r' : R2} {g0 g1 : D → D → Res D} {l : Dv → Res D} (ho : OpR X (compareOp op) r) (ho' : OpR X (compareOp op') r') (sr : SimR X.K cl r g0) (sr' : SimR X.K cl r' g1) (ne : ∀ a b, noExc (g0 a b)) (ne' : ∀ a b, noExc (g1 a b))
    (ha : QE X cl W a ta f) (hb : QE X cl W b tb h) (hc : QE X cl W c tc l) (hm : lastMarks [op, op'] [b, c] = false := by with_unfolding_all rfl) : QF X cl W (.Compare a [op, op'] [b, c] pos) (tChain r r' ta tb tc) (dChain g0 g1 f h l) :=
  ⟨pe_chain ho ho' ha.pe hb.pe hc.pe hm, chain_sim sr sr' ne ne' ha.sim hb.sim hc.sim⟩
/-! ### argument lists, tuples, lists -/
def dNil : Dv → Res (List D) := fun _ => .ok []
def dCons (f : Dv → Res D) (g : Dv → Res (List D)) : Dv → Res (List D) := fun δ => (f δ).bind fun d => (g δ).bind fun ds => .ok (d :: ds)
theorem a_nil : QA X cl W [] tNil dNil := ⟨pa_nil, fun δ σ H Q en po => po [] H (Same.refl H) .nil⟩
theorem a_cons {tr : TA} {gs : Dv → Res (List D)} (he : QE X cl W e ta f) (hr : QA X cl W es tr gs) (hs : starEach (e :: es) X.env = (false, eval e X.env) :: starEach es X.env := by rfl) : QA X cl W (e :: es) (tCons ta tr) (dCons f gs) := by
  refine ⟨pa_cons he.pe hr.pe hs, fun δ σ H Q en po => ?_⟩
  show ta σ H _
  refine he.sim.chain (P := fun H r => PostA X.K cl W σ H r Q) en po (fun c h => h) (fun H h => h) fun d v H1 _ s1 r1 p1 => ?_
  show tr σ H1 _
  refine hr.sim.chain (P := fun H r => PostA X.K cl W σ H r Q) (en.mono s1) (PostA.weak s1 p1) (fun c h => h) (fun H h => h) fun ds vs H2 _ s2 r2 p2 => ?_
  exact p2 (v :: vs) H2 s2 (.cons (Rp.mono s2 _ _ r1) r2)
def dTup (g : Dv → Res (List D)) : Dv → Res D := fun δ => (g δ).bind fun ds => Res.need (ds.length ≤ big) (.ok (.tuple ds))
def dLst (g : Dv → Res (List D)) : Dv → Res D := fun δ => (g δ).bind fun ds => Res.need (ds.length ≤ big) (.ok (.list ds))
theorem q_tup {tr : TA} {gs : Dv → Res (List D)} {x1 : Nat} (hr : QA X cl W es tr gs) : QF X cl W (.Tuple es x1 pos) (tTup tr) (dTup gs) := by
  refine ⟨pe_tup hr.pe, fun δ σ H Q en po => ?_⟩
  show tr σ H _
  refine hr.sim.chain (P := fun H r => PostF X.K cl W σ H r Q) en po (fun c h => h) (fun H h => h) fun ds vs H1 _ s1 r1 p1 => ?_
  obtain ⟨hc, p1⟩ := need_on p1
  refine ⟨by rw [r1.length]; exact big_le hc, fun p hp => ?_⟩
  have s := same_new (o := .tup vs) hp
  exact p1 _ _ (s1.trans s) (rpt upd_same (RpAll.mono s _ _ r1)) (fresh_no rfl)
theorem q_lst {tr : TA} {gs : Dv → Res (List D)} (hr : QA X cl W es tr gs) : QF X cl W (.List es pos) (tLst tr) (dLst gs) := by
  refine ⟨pe_lst hr.pe, fun δ σ H Q en po => ?_⟩
  show tr σ H _
  refine hr.sim.chain (P := fun H r => PostF X.K cl W σ H r Q) en po (fun c h => h) (fun H h => h) fun ds vs H1 _ s1 r1 p1 => ?_
  obtain ⟨hc, p1⟩ := need_on p1
  refine ⟨by rw [r1.length]; exact big_le hc, fun p hp => ?_⟩
  have s := same_new (o := .lst vs) hp
  exact p1 _ _ (s1.trans s) (rpl upd_same (RpAll.mono s _ _ r1)) (fresh_of (s1.free hp))
/-! ### built-ins -/
def SimC (K : Fg) (cl : Nat → Addr) (r : List V → Hp → VK → Prop) (g : List D → Res D) : Prop := ∀ (vs : List V) (ds : List D) (σ : L2.St) (H : Hp) (Q : VK), RpAll K H ds vs → PostF K cl (fun _ _ _ _ => False) σ H (g ds) Q → r vs H Q
def noExcC (g : List D → Res D) : Prop := ∀ ds, noExc (g ds)
theorem tCB_sim {tr : TA} {gs : Dv → Res (List D)} {r : List V → Hp → VK → Prop} {g : List D → Res D} (sa : SimA X.K cl W tr gs) (sr : SimC X.K cl r g) (ne : noExcC g) : SimF X.K cl W (tCB r tr) (fun δ => (gs δ).bind g) := by
  intro δ σ H Q en po
  show tr σ H _
  refine sa.chain (P := fun H r => PostF X.K cl W σ H r Q) en po (fun c h => h) (fun H h => h) fun ds vs H1 _ s1 r1 p1 => ?_
  refine sr vs ds σ H1 Q r1 ?_
  have p1 := p1.weak s1
  cases q : g ds with
  | ok d => rw [q] at p1; exact p1
  | exc c => exact (ne ds c q).elim
  | stuck => rw [q] at p1; exact p1
variable {x : Str} {id T : String} {p : Pos} {tr : TA} {gs : Dv → Res (List D)} {r : List V → Hp → VK → Prop} {gc : List D → Res D}
theorem q_callB (hc : CallR X (.builtin id) r) (sr : SimC X.K cl r gc) (ne : noExcC gc) (hg : Gl X x) (hm : X.mg x = none) (hv : bootBuiltins x = some (.builtin id)) (ha : QA X cl W (e :: es) tr gs) (hn : x ≠ "__name__" := by decide) (hdb : (x == ("__debug__" : Str)) = false := by decide)
    (he : starEach (e :: es) X.env = (false, eval e X.env) :: starEach es X.env := by rfl) (hpl : (backTo pos (starEach es X.env)).any (·.1) = false := by rfl) : QF X cl W (.Call (.Name x p) (e :: es) [] pos) (tCB r tr) (fun δ => (gs δ).bind gc) :=
  ⟨pe_callB hc hg hm hv ha.pe hn hdb he hpl, tCB_sim ha.sim sr ne⟩
theorem q_callTy (hc : CallR X (.type T) r) (sr : SimC X.K cl r gc) (ne : noExcC gc) (hg : Gl X x) (hm : X.mg x = none) (hv : bootBuiltins x = some (.type T)) (ha : QA X cl W (e :: es) tr gs) (hn : x ≠ "__name__" := by decide) (hdb : (x == ("__debug__" : Str)) = false := by decide)
    (he : starEach (e :: es) X.env = (false, eval e X.env) :: starEach es X.env := by rfl) (hpl : (backTo pos (starEach es X.env)).any (·.1) = false := by rfl) : QF X cl W (.Call (.Name x p) (e :: es) [] pos) (tCB r tr) (fun δ => (gs δ).bind gc) :=
  ⟨pe_callTy hc hg hm hv ha.pe hn hdb he hpl, tCB_sim ha.sim sr ne⟩
/-! ### defs -/
/-- the promise: called with n data ds, F ds -/
def spD (K : Fg) (cl : Nat → Addr) (n : Nat) (F : List D → Res D) : Sp := fun vs H Q E => ∃ ds, RpAll K H ds vs ∧ ds.length = n ∧ (F ds).on (fun d => ∀ v H', Same H H' → Rp K H' d v → Fresh H v d → Q v H') (fun c => ∀ H', Same H H' → E (.ref (cl c)) none H')
theorem spD_len {K : Fg} {n : Nat} {F : List D → Res D} {vs : List V} {H : Hp} {Q : VK} {E : XK} (h : spD K cl n F vs H Q E) : vs.length = n := by
  obtain ⟨ds, h1, h2, _⟩ := h
  rw [h1.length, h2]
variable {n k0 : Nat} {F : List D → Res D} {fa : Addr} {fd : FuncData} {ps : List Str} {CX : CXT}
def dCall (n : Nat) (F : List D → Res D) (gs : Dv → Res (List D)) : Dv → Res D := fun δ => (gs δ).bind fun ds => if ds.length = n then F ds else .stuck
theorem tCallS_sim {K : Fg} (sa : SimA K cl W tr gs) : SimF K cl W (tCallS (spD K cl n F) (WE W) tr) (dCall n F gs) := by
  intro δ σ H Q en po
  show tr σ H _
  refine sa.chain (P := fun H r => PostF K cl W σ H r Q) en po (fun c h => h) (fun H h => h) fun ds vs H1 _ s1 r1 p1 => ?_
  have p1 := p1.weak s1
  by_cases hn : ds.length = n
  · rw [if_pos hn] at p1
    exact ⟨ds, r1, hn, p1⟩
  · rw [if_neg hn] at p1
    exact p1.elim
theorem q_call (G : FnOk X.prog X.w X.K X.mg X.base CX k0 fa fd ps (spD X.K cl n F)) (hr : Room k0 X.A) (hg : Gl X x) (hm : X.mg x = some (.ref fa)) (hk : PySem.W.keepIn X.K (.ref fa) = true) (hb : Binds X.K fd ps []) (hx : ∀ σ, PassesAt CX X σ (WE W σ))
    (ha : QA X cl W (e :: es) tr gs) (hdb : (x == ("__debug__" : Str)) = false := by decide) (he : starEach (e :: es) X.env = (false, eval e X.env) :: starEach es X.env := by rfl) (hpl : (backTo pos (starEach es X.env)).any (·.1) = false := by rfl) :
    QF X cl W (.Call (.Name x p) (e :: es) [] pos) (tCallS (spD X.K cl n F) (WE W) tr) (dCall n F gs) :=
  ⟨pe_callS G hr hg hm hk hb hx ha.pe hdb he hpl, tCallS_sim ha.sim⟩
end
end DL
namespace DL
open PySem L2
/-! ### the slots of a body: what they stand for, and which lists and dicts are the body's own -/
inductive Sl where
  | fz (d : D)
  | ow (d : D)
def Sl.d : Sl → D
  | .fz d => d
  | .ow d => d
abbrev Env := List (Option Sl)
def view (ε : Env) : Dv := ε.map (Option.map Sl.d)
/-- H without the body's own -/
def hide (H : Hp) (M : List Addr) : Hp := fun a => if a ∈ M then none else H a
theorem hide_same (H : Hp) (M : List Addr) : Same (hide H M) H := fun a o h => by
  unfold hide at h
  by_cases q : a ∈ M
  · rw [if_pos q] at h; cases h
  · rw [if_neg q] at h; exact h
theorem hide_ne {H : Hp} {M : List Addr} {a : Addr} (h : a ∉ M) : hide H M a = H a := if_neg h
theorem hide_mono {H H' : Hp} {M : List Addr} (s : Same H H') : Same (hide H M) (hide H' M) := fun a o h => by
  unfold hide at h ⊢
  by_cases q : a ∈ M
  · rw [if_pos q] at h; cases h
  · rw [if_neg q] at h ⊢; exact s a o h
theorem hide_upd {H : Hp} {M : List Addr} {a : Addr} {o : HO} (h : a ∈ M) : hide (upd H a o) M = hide H M := by
  funext b
  unfold hide
  by_cases q : b ∈ M
  · rw [if_pos q, if_pos q]
  · have ne : b ≠ a := fun z => q (by rw [z]; exact h)
    rw [if_neg q, if_neg q, upd_ne ne]
theorem hide_more {H H' : Hp} {M : List Addr} {p : Addr} (s : Same H H') (h : H p = none) : Same (hide H M) (hide H' (p :: M)) := fun a o e => by
  have ha := hide_same H M a o e
  have hm : a ∉ M := fun q => by unfold hide at e; rw [if_pos q] at e; cases e
  have hp : a ≠ p := fun z => by rw [z, h] at ha; cases ha
  rw [hide_ne (by simp only [List.mem_cons, not_or]; exact ⟨hp, hm⟩)]
  exact s a o ha
theorem rd_hide {H : Hp} {M : List Addr} {a : Addr} {u : HO} (h : a ∉ M) (r : Rd H a u) : Rd (hide H M) a u := by
  rcases r with r | ⟨o, r⟩
  · exact .inl (by rw [hide_ne h]; exact r)
  · exact .inr ⟨o, by rw [hide_ne h]; exact r⟩
theorem rd_upd {H : Hp} {a b : Addr} {o u : HO} (h : b ≠ a) (r : Rd H b u) : Rd (upd H a o) b u := by
  rcases r with r | ⟨q, r⟩
  · exact .inl (by rw [upd_ne h]; exact r)
  · exact .inr ⟨q, by rw [upd_ne h]; exact r⟩
/-- a list or a dict stands at a -/
def mutO : HO → Bool
  | .lst _ | .dK _ | .dT _ | .ins _ _ _ | .own _ => true
  | _ => false
def Boxy (H : Hp) (a : Addr) : Prop := ∃ o, H a = some o ∧ mutO o = true
theorem Boxy.rd {H : Hp} {a : Addr} {u : HO} (b : Boxy H a) (r : Rd H a u) : H a = some u := by
  rcases r with r | ⟨o, r⟩
  · exact r
  · obtain ⟨x, b, m⟩ := b
    rw [b] at r
    cases r
    cases m
theorem Boxy.mono {H H' : Hp} {a : Addr} (s : Same H H') (h : Boxy H a) : Boxy H' a := by
  obtain ⟨o, h, m⟩ := h
  exact ⟨o, s _ _ h, m⟩
theorem Boxy.nn {H : Hp} {a : Addr} (h : Boxy H a) (e : H a = none) : False := by
  obtain ⟨o, h, _⟩ := h
  rw [e] at h
  cases h
theorem Boxy.notup {H : Hp} {a : Addr} {xs : List V} (h : Boxy H a) (e : H a = some (.tup xs)) : False := by
  obtain ⟨o, h, m⟩ := h
  rw [e] at h
  cases h
  cases m
theorem hide_t {K : Fg} {H : Hp} {M : List Addr} {a : Addr} {xs : List V} (b : ∀ a ∈ M, Boxy H a) (h : SqT K H a xs) : SqT K (hide H M) a xs := by
  rcases h with h | h
  · refine .inl ?_
    have hm : a ∉ M := fun q => by
      rcases h with h | ⟨o, h⟩
      · exact (b a q).notup h
      · obtain ⟨x, e, m⟩ := b a q
        rw [e] at h
        cases h
        cases m
    rcases h with h | ⟨o, h⟩
    · exact .inl (by rw [hide_ne hm]; exact h)
    · exact .inr ⟨o, by rw [hide_ne hm]; exact h⟩
  · exact .inr h
theorem hide_tH {H : Hp} {M : List Addr} {a : Addr} {xs : List V} (b : ∀ a ∈ M, Boxy H a) (h : H a = some (.tup xs)) : hide H M a = some (.tup xs) := by
  have hm : a ∉ M := fun q => by
    exact (b a q).notup h
  rw [hide_ne hm]
  exact h
theorem hide_fH {H : Hp} {M : List Addr} {a : Addr} {o : Obj} {xs : List V} (b : ∀ a ∈ M, Boxy H a) (h : H a = some (.frz o (.lst xs))) : hide H M a = some (.frz o (.lst xs)) := by
  have hm : a ∉ M := fun q => by
    obtain ⟨x, e, m⟩ := b a q
    rw [e] at h
    cases h
    cases m
  rw [hide_ne hm]
  exact h
/-! data without lists and dicts does not hang on the body's own -/
mutual
theorem Rp.hide {K : Fg} {H : Hp} {M : List Addr} (b : ∀ a ∈ M, Boxy H a) : ∀ (d : D) (v : V), imm d = true → Rp K H d v → Rp K (DL.hide H M) d v
  | .none, _, _, h => by unfold Rp at h ⊢; exact h
  | .bool _, _, _, h => by unfold Rp at h ⊢; exact h
  | .int _, _, _, h => by unfold Rp at h ⊢; exact h
  | .str _, _, _, h => by unfold Rp at h ⊢; exact h
  | .list _, _, i, _ => by unfold imm at i; cases i
  | .tuple l, _, i, h => by
    unfold imm at i
    unfold Rp at h ⊢
    obtain ⟨a, xs, hv, ha, hx⟩ := h
    exact ⟨a, xs, hv, hide_tH b ha, RpAll.hide b l xs i hx⟩
  | .dicK _ _, _, i, _ => by unfold imm at i; cases i
  | .dicT _ _, _, i, _ => by unfold imm at i; cases i
  | .scr _, _, i, _ => by unfold imm at i; cases i
  | .adr _, _, _, h => by unfold Rp at h ⊢; exact h
  | .obj _ _ _ _, _, i, _ => by unfold imm at i; cases i
  | .fzl l, _, i, h => by
    unfold imm at i
    unfold Rp at h ⊢
    obtain ⟨a, o, xs, hv, ha, hx⟩ := h
    exact ⟨a, o, xs, hv, hide_fH b ha, RpAll.hide b l xs i hx⟩
theorem RpAll.hide {K : Fg} {H : Hp} {M : List Addr} (b : ∀ a ∈ M, Boxy H a) : ∀ (ds : List D) (vs : List V), immAll ds = true → RpAll K H ds vs → RpAll K (DL.hide H M) ds vs
  | [], _, _, h => by unfold RpAll at h ⊢; exact h
  | d :: ds, _, i, h => by
    unfold immAll at i
    rw [Bool.and_eq_true] at i
    unfold RpAll at h ⊢
    obtain ⟨v, r, hv, h1, h2⟩ := h
    exact ⟨v, r, hv, Rp.hide b d v i.1 h1, RpAll.hide b ds r i.2 h2⟩
end
/-- a list's or dict's own items -/
def inner : D → List D
  | .list l => l
  | .dicK _ l => l
  | .dicT _ l => l
  | _ => []
/-- the body's own list or dict at a: its items are data without lists -/
def Own (K : Fg) (H : Hp) (a : Addr) (d : D) : Prop := isBox d = true ∧ immAll (inner d) = true ∧ Rp K H d (.ref a)
/-- the slots σ over H stand for ε; H0: what stood at the entry -/
def SR (K : Fg) (H0 : Hp) (ε : Env) (σ : L2.St) (H : Hp) : Prop := ∃ M : List Addr, Same H0 (hide H M) ∧ (∀ a ∈ M, Boxy H a) ∧
  (∀ (i : Nat) (d : D), ε[i]? = some (some (.fz d)) → ∃ v, σ[i]? = some (some v) ∧ Rp K (hide H M) d v) ∧
  (∀ (i : Nat) (d : D), ε[i]? = some (some (.ow d)) → ∃ a, σ[i]? = some (some (.ref a)) ∧ a ∈ M ∧ Own K H a d) ∧
  ∀ (i j : Nat) (d e : D), i ≠ j → ε[i]? = some (some (.ow d)) → ε[j]? = some (some (.ow e)) → σ[i]? ≠ σ[j]?
section
variable {K : Fg} {H0 H H' : Hp} {ε : Env} {σ : L2.St}
theorem SR.same (h : SR K H0 ε σ H) : Same H0 H := by
  obtain ⟨M, s, _⟩ := h
  exact s.trans (hide_same H M)
theorem SR.lower {B : Hp} (s : Same B H0) (h : SR K H0 ε σ H) : SR K B ε σ H := by
  obtain ⟨M, s1, r⟩ := h
  exact ⟨M, s.trans s1, r⟩
theorem SR.mono (s : Same H H') (h : SR K H0 ε σ H) : SR K H0 ε σ H' := by
  obtain ⟨M, s1, b, f, o, n⟩ := h
  refine ⟨M, s1.trans (hide_mono s), fun a ha => (b a ha).mono s, fun i d e => ?_, fun i d e => ?_, n⟩
  · obtain ⟨v, h1, h2⟩ := f i d e
    exact ⟨v, h1, Rp.mono (hide_mono s) _ _ h2⟩
  · obtain ⟨a, h1, h2, h3, h4, h5⟩ := o i d e
    exact ⟨a, h1, h2, h3, h4, Rp.mono s _ _ h5⟩
theorem view_get {ε : Env} {i : Nat} {d : D} (h : (view ε)[i]? = some (some d)) : ε[i]? = some (some (.fz d)) ∨ ε[i]? = some (some (.ow d)) := by
  unfold view at h
  rw [List.getElem?_map] at h
  cases q : ε[i]? with
  | none => rw [q] at h; cases h
  | some o =>
    rw [q] at h
    cases o with
    | none => cases h
    | some s =>
      cases s with
      | fz e => cases h; exact .inl rfl
      | ow e => cases h; exact .inr rfl
theorem SR.env (h : SR K H0 ε σ H) (l : σ.length = ε.length) : EnvD K H σ (view ε) := ⟨by unfold view; rw [List.length_map, l]; exact Nat.le_refl _, fun i d e => by
  obtain ⟨M, s1, b, f, o, n⟩ := h
  rcases view_get e with e | e
  · obtain ⟨v, h1, h2⟩ := f i d e
    exact ⟨v, h1, Rp.mono (hide_same H M) _ _ h2⟩
  · obtain ⟨a, h1, h2, h3, h4, h5⟩ := o i d e
    exact ⟨_, h1, h5⟩⟩
/-- what may be put into a slot as it is: no list within; or a list or dict of such -/
def calm : D → Bool
  | .list l => immAll l
  | .dicK _ l => immAll l
  | .dicT _ l => immAll l
  | d => imm d
theorem set_get {α : Type} {l : List α} {i j : Nat} {a b : α} (h : (l.set i a)[j]? = some b) : (j = i ∧ i < l.length ∧ b = a) ∨ (j ≠ i ∧ l[j]? = some b) := by
  by_cases q : i = j
  · subst q
    by_cases hl : i < l.length
    · rw [List.getElem?_set_self hl] at h
      cases h
      exact .inl ⟨rfl, hl, rfl⟩
    · rw [List.getElem?_eq_none (by rw [List.length_set]; omega)] at h
      cases h
  · rw [List.getElem?_set_ne q] at h
    exact .inr ⟨fun z => q z.symm, h⟩
theorem set_out {α : Type} {l : List α} {i j : Nat} {a : α} (h : j ≠ i) : (l.set i a)[j]? = l[j]? := List.getElem?_set_ne (fun z => h z.symm)
/-- a new datum in slot i, read only -/
theorem SR.put {v : V} {d : D} {i : Nat} (h : SR K H0 ε σ H) (hi : i < σ.length) (c : calm d = true) (s : Same H H') (r : Rp K H' d v) (fr : Fresh H v d) : SR K H0 (ε.set i (some (.fz d))) (σ.set i (some v)) H' := by
  obtain ⟨M, s1, b, f, o, n⟩ := h.mono s
  obtain ⟨M0, t1, b0, f0, o0, n0⟩ := h
  have key : ∀ (M' : List Addr), (∀ a ∈ M', Boxy H' a) → (∀ p, H p = none → p ∉ M') → Rp K (hide H' M') d v := fun M' b' nm => by
    cases d with
    | list l =>
      obtain ⟨a, xs, rfl, ha, hx⟩ := rp_list r
      obtain ⟨p, hp, hn⟩ := fr rfl
      cases hp
      exact rpl (by rw [hide_ne (nm _ hn)]; exact ha) (RpAll.hide b' l xs c hx)
    | dicK ks l =>
      unfold Rp at r ⊢
      obtain ⟨a, xs, rfl, ha, hk, hx⟩ := r
      obtain ⟨p, hp, hn⟩ := fr rfl
      cases hp
      exact ⟨a, xs, rfl, rd_hide (nm _ hn) ha, hk, RpAll.hide b' l _ c hx⟩
    | dicT ks l =>
      unfold Rp at r ⊢
      obtain ⟨a, xs, rfl, ha, hk, hx⟩ := r
      obtain ⟨p, hp, hn⟩ := fr rfl
      cases hp
      exact ⟨a, xs, rfl, rd_hide (nm _ hn) ha, hk, RpAll.hide b' l _ c hx⟩
    | _ => exact Rp.hide b' _ _ c r
  -- the old own addresses
  have bm : ∀ a ∈ M0, Boxy H' a := fun a ha => (b0 a ha).mono s
  refine ⟨M0, t1.trans (hide_mono s), bm, fun j e q => ?_, fun j e q => ?_, fun j k e e' hjk q1 q2 => ?_⟩
  · rcases set_get q with ⟨rfl, _, z⟩ | ⟨z1, z2⟩
    · cases z
      refine ⟨v, List.getElem?_set_self hi, key M0 bm fun p hp hm => ?_⟩
      exact (b0 p hm).nn hp
    · obtain ⟨u, h1, h2⟩ := f0 j e z2
      exact ⟨u, by rw [set_out z1]; exact h1, Rp.mono (hide_mono s) _ _ h2⟩
  · rcases set_get q with ⟨rfl, _, z⟩ | ⟨z1, z2⟩
    · cases z
    · obtain ⟨u, h1, h2, h3, h4, h5⟩ := o0 j e z2
      exact ⟨u, by rw [set_out z1]; exact h1, h2, h3, h4, Rp.mono s _ _ h5⟩
  · rcases set_get q1 with ⟨rfl, _, z⟩ | ⟨z1, z2⟩
    · cases z
    · rcases set_get q2 with ⟨rfl, _, z⟩ | ⟨y1, y2⟩
      · cases z
      · rw [set_out z1, set_out y1]
        exact n0 j k e e' hjk z2 y2
/-- a new list or dict in slot i, the body's own -/
theorem SR.putOwn {v : V} {d : D} {i : Nat} (h : SR K H0 ε σ H) (hi : i < σ.length) (bx : isBox d = true) (bz : ∀ p, v = .ref p → Boxy H' p) (c : calm d = true) (s : Same H H') (r : Rp K H' d v) (fr : Fresh H v d) : SR K H0 (ε.set i (some (.ow d))) (σ.set i (some v)) H' := by
  obtain ⟨M0, t1, b0, f0, o0, n0⟩ := h
  obtain ⟨p, rfl, hp⟩ := fr bx
  have pm : p ∉ M0 := fun hm => by
    exact (b0 p hm).nn hp
  have hin : immAll (inner d) = true := by
    cases d with
    | list l => exact c
    | dicK ks l => exact c
    | dicT ks l => exact c
    | scr l => rfl
    | _ => cases bx
  have hbx : Boxy H' p := bz p rfl
  have sm := hide_more (M := M0) s hp
  refine ⟨p :: M0, t1.trans sm, fun a ha => ?_, fun j e q => ?_, fun j e q => ?_, fun j k e e' hjk q1 q2 => ?_⟩
  · rcases List.mem_cons.mp ha with rfl | ha
    · exact hbx
    · exact (b0 a ha).mono s
  · rcases set_get q with ⟨rfl, _, z⟩ | ⟨z1, z2⟩
    · cases z
    · obtain ⟨u, h1, h2⟩ := f0 j e z2
      exact ⟨u, by rw [set_out z1]; exact h1, Rp.mono sm _ _ h2⟩
  · rcases set_get q with ⟨rfl, _, z⟩ | ⟨z1, z2⟩
    · cases z
      exact ⟨p, List.getElem?_set_self hi, List.mem_cons_self, bx, hin, r⟩
    · obtain ⟨u, h1, h2, h3, h4, h5⟩ := o0 j e z2
      exact ⟨u, by rw [set_out z1]; exact h1, List.mem_cons_of_mem _ h2, h3, h4, Rp.mono s _ _ h5⟩
  · have out : ∀ j e, j ≠ i → ε[j]? = some (some (.ow e)) → σ[j]? ≠ some (some (.ref p)) := fun j e hj q z => by
      obtain ⟨u, h1, h2, _⟩ := o0 j e q
      rw [h1] at z
      cases z
      exact pm h2
    rcases set_get q1 with ⟨rfl, _, z⟩ | ⟨z1, z2⟩
    · rcases set_get q2 with ⟨rfl, _, z⟩ | ⟨y1, y2⟩
      · exact (hjk rfl).elim
      · rw [List.getElem?_set_self hi, set_out y1]
        exact fun z => out k e' y1 y2 z.symm
    · rcases set_get q2 with ⟨rfl, _, z⟩ | ⟨y1, y2⟩
      · rw [List.getElem?_set_self hi, set_out z1]
        exact out j e z1 z2
      · rw [set_out z1, set_out y1]
        exact n0 j k e e' hjk z2 y2
/-- the list of slot i changes -/
theorem SR.change {a : Addr} {l l' : List D} {xs : List V} {i : Nat} (h : SR K H0 ε σ H) (hi : ε[i]? = some (some (.ow (.list l)))) (ha : σ[i]? = some (some (.ref a))) (im : immAll l' = true) (r : RpAll K H l' xs) :
    SR K H0 (ε.set i (some (.ow (.list l')))) σ (upd H a (.lst xs)) := by
  obtain ⟨M0, t1, b0, f0, o0, n0⟩ := h
  obtain ⟨u, h1, h2, h3, h4, h5⟩ := o0 i _ hi
  rw [ha] at h1
  cases h1
  have li : i < ε.length := by
    rcases Nat.lt_or_ge i ε.length with q | q
    · exact q
    · rw [List.getElem?_eq_none q] at hi; cases hi
  have eh : hide (upd H a (.lst xs)) M0 = hide H M0 := hide_upd h2
  have rr : RpAll K (upd H a (.lst xs)) l' xs := by
    have z := RpAll.hide b0 l' xs im r
    rw [← eh] at z
    exact RpAll.mono (hide_same _ _) _ _ z
  have keepB : ∀ b ∈ M0, Boxy (upd H a (.lst xs)) b := fun b hb => by
    by_cases q : b = a
    · subst q; exact ⟨_, upd_same, rfl⟩
    · obtain ⟨o, e, m⟩ := b0 b hb
      exact ⟨o, by rw [upd_ne q]; exact e, m⟩
  refine ⟨M0, by rw [eh]; exact t1, keepB, fun j e q => ?_, fun j e q => ?_, fun j k e e' hjk q1 q2 => ?_⟩
  · rcases set_get q with ⟨rfl, _, z⟩ | ⟨z1, z2⟩
    · cases z
    · rw [eh]
      exact f0 j e z2
  · rcases set_get q with ⟨rfl, _, z⟩ | ⟨z1, z2⟩
    · cases z
      exact ⟨a, ha, h2, rfl, im, rpl upd_same rr⟩
    · obtain ⟨w, w1, w2, w3, w4, w5⟩ := o0 j e z2
      have ne : w ≠ a := fun z => n0 j i e _ z1 z2 hi (by rw [w1, ha, z])
      refine ⟨w, w1, w2, w3, w4, ?_⟩
      cases e with
      | list m =>
        obtain ⟨c, ys, e1, e2, e3⟩ := rp_list w5
        cases e1
        have z := RpAll.hide b0 m ys w4 e3
        rw [← eh] at z
        exact rpl (by rw [upd_ne ne]; exact e2) (RpAll.mono (hide_same _ _) _ _ z)
      | dicK ks m =>
        unfold Rp at w5 ⊢
        obtain ⟨c, ys, e1, e2, e4, e3⟩ := w5
        cases e1
        have z := RpAll.hide b0 m _ w4 e3
        rw [← eh] at z
        exact ⟨w, ys, rfl, rd_upd ne e2, e4, RpAll.mono (hide_same _ _) _ _ z⟩
      | dicT ks m =>
        unfold Rp at w5 ⊢
        obtain ⟨c, ys, e1, e2, e4, e3⟩ := w5
        cases e1
        have z := RpAll.hide b0 m _ w4 e3
        rw [← eh] at z
        exact ⟨w, ys, rfl, rd_upd ne e2, e4, RpAll.mono (hide_same _ _) _ _ z⟩
      | scr ns =>
        unfold Rp at w5 ⊢
        obtain ⟨c, e1, e2⟩ := w5
        cases e1
        refine ⟨w, rfl, ?_⟩
        rcases e2 with (e2 | ⟨o, e2⟩) | e2
        · exact .inl (.inl (by rw [upd_ne ne]; exact e2))
        · exact .inl (.inr ⟨o, by rw [upd_ne ne]; exact e2⟩)
        · exact .inr e2
      | _ => cases w3
  · rcases set_get q1 with ⟨rfl, _, z⟩ | ⟨z1, z2⟩
    · rcases set_get q2 with ⟨rfl, _, z'⟩ | ⟨y1, y2⟩
      · exact (hjk rfl).elim
      · exact n0 _ _ _ _ hjk hi y2
    · rcases set_get q2 with ⟨rfl, _, z'⟩ | ⟨y1, y2⟩
      · exact n0 _ _ _ _ hjk z2 hi
      · exact n0 _ _ _ _ hjk z2 y2
/-- slot i's own list is from now on only read -/
theorem SR.freeze {d : D} {i : Nat} (h : SR K H0 ε σ H) (hi : ε[i]? = some (some (.ow d))) : SR K H0 (ε.set i (some (.fz d))) σ H := by
  obtain ⟨M0, t1, b0, f0, o0, n0⟩ := h
  obtain ⟨a, h1, h2, h3, h4, h5⟩ := o0 i _ hi
  have sm : Same (hide H M0) (hide H (M0.filter (· ≠ a))) := fun b o e => by
    have hb := hide_same _ _ _ _ e
    have hm : b ∉ M0 := fun q => by unfold hide at e; rw [if_pos q] at e; cases e
    rw [hide_ne (fun q => hm (List.mem_filter.mp q).1)]
    exact hb
  have bb : ∀ b ∈ M0.filter (· ≠ a), Boxy H b := fun b hb => b0 b (List.mem_filter.mp hb).1
  have na : a ∉ M0.filter (· ≠ a) := fun q => by simpa using (List.mem_filter.mp q).2
  have rr : Rp K (hide H (M0.filter (· ≠ a))) d (.ref a) := by
    cases d with
    | list l =>
      obtain ⟨c, xs, e, ha, hx⟩ := rp_list h5
      cases e
      exact rpl (by rw [hide_ne na]; exact ha) (RpAll.hide bb l xs h4 hx)
    | dicK ks l =>
      unfold Rp at h5 ⊢
      obtain ⟨c, xs, e, ha, hk, hx⟩ := h5
      cases e
      exact ⟨a, xs, rfl, rd_hide na ha, hk, RpAll.hide bb l _ h4 hx⟩
    | dicT ks l =>
      unfold Rp at h5 ⊢
      obtain ⟨c, xs, e, ha, hk, hx⟩ := h5
      cases e
      exact ⟨a, xs, rfl, rd_hide na ha, hk, RpAll.hide bb l _ h4 hx⟩
    | scr ns =>
      unfold Rp at h5 ⊢
      obtain ⟨c, e1, e2⟩ := h5
      cases e1
      refine ⟨a, rfl, ?_⟩
      rcases e2 with (e2 | ⟨o, e2⟩) | e2
      · exact .inl (.inl (by rw [hide_ne na]; exact e2))
      · exact .inl (.inr ⟨o, by rw [hide_ne na]; exact e2⟩)
      · exact .inr e2
    | _ => cases h3
  refine ⟨M0.filter (· ≠ a), t1.trans sm, bb, fun j e q => ?_, fun j e q => ?_, fun j k e e' hjk q1 q2 => ?_⟩
  · rcases set_get q with ⟨rfl, _, z⟩ | ⟨z1, z2⟩
    · cases z
      exact ⟨_, h1, rr⟩
    · obtain ⟨u, u1, u2⟩ := f0 j e z2
      exact ⟨u, u1, Rp.mono sm _ _ u2⟩
  · rcases set_get q with ⟨rfl, _, z⟩ | ⟨z1, z2⟩
    · cases z
    · obtain ⟨w, w1, w2, w3⟩ := o0 j e z2
      have ne : w ≠ a := fun z => n0 j i e _ z1 z2 hi (by rw [w1, h1, z])
      exact ⟨w, w1, List.mem_filter.mpr ⟨w2, by simpa using ne⟩, w3⟩
  · rcases set_get q1 with ⟨rfl, _, z⟩ | ⟨z1, z2⟩
    · cases z
    · rcases set_get q2 with ⟨rfl, _, z'⟩ | ⟨y1, y2⟩
      · cases z'
      · exact n0 _ _ _ _ hjk z2 y2
/-- a slot is forgotten -/
theorem SR.forget {ε' : Env} (h : SR K H0 ε σ H) (w : ∀ (i : Nat) (s : Sl), ε'[i]? = some (some s) → ε[i]? = some (some s)) : SR K H0 ε' σ H := by
  obtain ⟨M0, t1, b0, f0, o0, n0⟩ := h
  exact ⟨M0, t1, b0, fun i d e => f0 i d (w i _ e), fun i d e => o0 i d (w i _ e), fun i j d e hij q1 q2 => n0 i j d e hij (w i _ q1) (w j _ q2)⟩
end
end DL
namespace DL
open PySem L2
/-- .. and as many slots as there are names -/
def SQ (K : Fg) (H0 : Hp) (ε : Env) (σ : L2.St) (H : Hp) : Prop := SR K H0 ε σ H ∧ σ.length = ε.length
/-- what is wanted behind a statement, over data -/
structure DE where
  nx : Env → Prop
  rt : D → Prop
  ex : Nat → Env → Prop := fun _ _ => False
  bk : Env → Prop := fun _ => False
  ct : Env → Prop := fun _ => False
structure EndR (K : Fg) (cl : Nat → Addr) (W : WX) (H0 : Hp) (d : DE) (D' : Ends) : Prop where
  nx : ∀ ε σ H, SQ K H0 ε σ H → d.nx ε → D'.nx σ H
  rt : ∀ x v H, Same H0 H → Rp K H x v → Fresh H0 v x → d.rt x → D'.rt v H
  ex : ∀ c ε σ H, SQ K H0 ε σ H → d.ex c ε → W (.ref (cl c)) none σ H
  bk : ∀ ε σ H, SQ K H0 ε σ H → d.bk ε → D'.bk σ H
  ct : ∀ ε σ H, SQ K H0 ε σ H → d.ct ε → D'.ct σ H
abbrev DS := DE → Env → Prop
def SimS (K : Fg) (cl : Nat → Addr) (W : WX) (ts : TS) (g : DS) : Prop := ∀ (H0 : Hp) (d : DE) (D' : Ends) (ε : Env) (σ : L2.St) (H : Hp), EndR K cl W H0 d D' → SQ K H0 ε σ H → g d ε → ts D' σ H
structure QS (X : Cx) (cl : Nat → Addr) (W : WX) (st : Stmt) (ts : TS) (g : DS) : Prop where
  ps : PS X st ts
  sim : SimS X.K cl W ts g
structure QSs (X : Cx) (cl : Nat → Addr) (W : WX) (st : List Stmt) (ts : TS) (g : DS) : Prop where
  ps : PSs X st ts
  sim : SimS X.K cl W ts g
section
variable {K : Fg} {X : Cx} {cl : Nat → Addr} {W : WX} {H0 H H' : Hp} {ε : Env} {σ : L2.St}
theorem SQ.env (h : SQ K H0 ε σ H) : EnvD K H σ (view ε) := h.1.env h.2
theorem SQ.mono (s : Same H H') (h : SQ K H0 ε σ H) : SQ K H0 ε σ H' := ⟨h.1.mono s, h.2⟩
theorem SQ.put {v : V} {d : D} {i : Nat} (h : SQ K H0 ε σ H) (hi : i < ε.length) (c : calm d = true) (s : Same H H') (r : Rp K H' d v) (fr : Fresh H v d) : SQ K H0 (ε.set i (some (.fz d))) (σ.set i (some v)) H' :=
  ⟨h.1.put (by rw [h.2]; exact hi) c s r fr, by rw [List.length_set, List.length_set, h.2]⟩
theorem SQ.putOwn {v : V} {d : D} {i : Nat} (h : SQ K H0 ε σ H) (hi : i < ε.length) (bx : isBox d = true) (ns : ∀ p, v = .ref p → Boxy H' p) (c : calm d = true) (s : Same H H') (r : Rp K H' d v) (fr : Fresh H v d) : SQ K H0 (ε.set i (some (.ow d))) (σ.set i (some v)) H' :=
  ⟨h.1.putOwn (by rw [h.2]; exact hi) bx ns c s r fr, by rw [List.length_set, List.length_set, h.2]⟩
theorem SQ.change {a : Addr} {l l' : List D} {xs : List V} {i : Nat} (h : SQ K H0 ε σ H) (hi : ε[i]? = some (some (.ow (.list l)))) (ha : σ[i]? = some (some (.ref a))) (im : immAll l' = true) (r : RpAll K H l' xs) :
    SQ K H0 (ε.set i (some (.ow (.list l')))) σ (upd H a (.lst xs)) := ⟨h.1.change hi ha im r, by rw [List.length_set, h.2]⟩
theorem SQ.freeze {d : D} {i : Nat} (h : SQ K H0 ε σ H) (hi : ε[i]? = some (some (.ow d))) : SQ K H0 (ε.set i (some (.fz d))) σ H := ⟨h.1.freeze hi, by rw [List.length_set, h.2]⟩
theorem SQ.lower {B : Hp} (s : Same B H0) (h : SQ K H0 ε σ H) : SQ K B ε σ H := ⟨h.1.lower s, h.2⟩
theorem EndR.raise {B : Hp} {d : DE} {D' : Ends} (s : Same H0 B) (e : EndR K cl W H0 d D') : EndR K cl W B d D' :=
  ⟨fun ε σ H h => e.nx ε σ H (h.lower s), fun x v H sm r f => e.rt x v H (s.trans sm) r (f.back s), fun c ε σ H h => e.ex c ε σ H (h.lower s), fun ε σ H h => e.bk ε σ H (h.lower s), fun ε σ H h => e.ct ε σ H (h.lower s)⟩
/-- an expression, then the rest by its value -/
theorem SimF.runS {te : TE} {f : Dv → Res D} {d : DE} {D' : Ends} {k : D → Prop} {Q : VK} (s : SimF K cl W te f) (en : EndR K cl W H0 d D') (q : SQ K H0 ε σ H) (h : (f (view ε)).on k (fun c => d.ex c ε))
    (hk : ∀ x v H', f (view ε) = .ok x → Same H H' → Rp K H' x v → Fresh H v x → k x → Q v H') : te σ H Q := by
  refine s (view ε) σ H Q q.env ?_
  cases r : f (view ε) with
  | ok x => rw [r] at h; exact fun v H' sm rp fr => hk x v H' r sm rp fr h
  | exc c => rw [r] at h; exact fun H' sm => en.ex c ε σ H' (q.mono sm) h
  | stuck => rw [r] at h; exact h.elim
theorem SimE.runS {te : TE} {f : Dv → Res D} {d : DE} {D' : Ends} {k : D → Prop} {Q : VK} (s : SimE K cl W te f) (en : EndR K cl W H0 d D') (q : SQ K H0 ε σ H) (h : (f (view ε)).on k (fun c => d.ex c ε))
    (hk : ∀ x v H', f (view ε) = .ok x → Same H H' → Rp K H' x v → k x → Q v H') : te σ H Q := by
  refine s (view ε) σ H Q q.env ?_
  cases r : f (view ε) with
  | ok x => rw [r] at h; exact fun v H' sm rp => hk x v H' r sm rp h
  | exc c => rw [r] at h; exact fun H' sm => en.ex c ε σ H' (q.mono sm) h
  | stuck => rw [r] at h; exact h.elim
theorem SimT.runS {te : TT} {f : Dv → Res Bool} {d : DE} {D' : Ends} {k : Bool → Prop} {Q : Bool → Hp → Prop} (s : SimT K cl W te f) (en : EndR K cl W H0 d D') (q : SQ K H0 ε σ H) (h : (f (view ε)).on k (fun c => d.ex c ε))
    (hk : ∀ x H', f (view ε) = .ok x → Same H H' → k x → Q x H') : te σ H Q := by
  refine s (view ε) σ H Q q.env ?_
  cases r : f (view ε) with
  | ok x => rw [r] at h; exact fun H' sm => hk x H' r sm h
  | exc c => rw [r] at h; exact fun H' sm => en.ex c ε σ H' (q.mono sm) h
  | stuck => rw [r] at h; exact h.elim
variable {e c : Expr} {st : Stmt} {rest sa sb : List Stmt} {pos pos' : Pos} {te : TE} {tc : TT} {t u : TS} {f : Dv → Res D} {fb : Dv → Res Bool} {g k : DS}
/-! ### blocks -/
def gNext : DS := fun d ε => d.nx ε
def gSeq (g k : DS) : DS := fun d ε => g { d with nx := k d } ε
theorem b_nil : QSs X cl W [] tNext gNext := ⟨pss_nil, fun H0 d D' ε σ H en q h => en.nx ε σ H q h⟩
theorem b_one (h : QS X cl W st t g) : QSs X cl W [st] t g := ⟨pss_one h.ps, h.sim⟩
theorem b_cons (h1 : QS X cl W st t g) (h2 : QSs X cl W rest u k) : QSs X cl W (st :: rest) (tSeq t u) (gSeq g k) := by
  refine ⟨pss_cons h1.ps h2.ps, fun H0 d D' ε σ H en q h => ?_⟩
  exact h1.sim H0 { d with nx := k d } { D' with nx := u D' } ε σ H ⟨fun ε' σ' H' q' h' => h2.sim H0 d D' ε' σ' H' en q' h', en.rt, en.ex, en.bk, en.ct⟩ q h
theorem s_pass : QS X cl W (.Pass pos) tNext gNext := ⟨ps_pass, fun H0 d D' ε σ H en q h => en.nx ε σ H q h⟩
theorem s_break : QS X cl W (.Break pos) tBreak (fun d ε => d.bk ε) := ⟨ps_break, fun H0 d D' ε σ H en q h => en.bk ε σ H q h⟩
theorem s_cont : QS X cl W (.Continue pos) tCont (fun d ε => d.ct ε) := ⟨ps_continue, fun H0 d D' ε σ H en q h => en.ct ε σ H q h⟩
theorem s_never : QS X cl W st tNever (fun _ _ => False) := ⟨ps_never, fun H0 d D' ε σ H en q h => h⟩
/-! ### x = e -/
def gSet (i : Nat) (f : Dv → Res D) : DS := fun d ε => (f (view ε)).on (fun x => i < ε.length ∧ calm x = true ∧ d.nx (ε.set i (some (.fz x)))) (fun c => d.ex c ε)
theorem s_set {i : Nat} {x : Str} (he : QF X cl W e te f) (hN : X.N.Nodup) (hi : X.N[i]? = some x) (hx : Loc X.env.scope x) (hs : swapsWith e (some (.Name x pos')) pos.line X.env = pure false := by rfl) (hf : X.fn x = true ∨ X.env.scope.names.lookup x = some .local := by first | exact .inl rfl | exact .inr rfl | assumption) :
    QS X cl W (.Assign [.Name x pos'] e pos) (tAsg te (gName i)) (gSet i f) := by
  refine ⟨ps_set hN hi hx he.pe hs hf, fun H0 d D' ε σ H en q h => ?_⟩
  show te σ H _
  refine he.sim.runS en q h fun y v H' _ sm rp fr hk => ?_
  exact en.nx _ _ _ (q.put hk.1 hk.2.1 sm rp fr) hk.2.2
def notScr : D → Bool
  | .list _ => true
  | _ => false
theorem boxy_of {K : Fg} {H : Hp} {d : D} {v : V} (h : notScr d = true) (r : Rp K H d v) : ∀ p, v = .ref p → Boxy H p := fun p e => by
  subst e
  cases d with
  | list l => obtain ⟨a, xs, e, ha, _⟩ := rp_list r; cases e; exact ⟨_, ha, rfl⟩
  | _ => cases h
def gOwn (i : Nat) (f : Dv → Res D) : DS := fun d ε => (f (view ε)).on (fun x => i < ε.length ∧ isBox x = true ∧ notScr x = true ∧ calm x = true ∧ d.nx (ε.set i (some (.ow x)))) (fun c => d.ex c ε)
theorem own_sim {i : Nat} (s : SimF X.K cl W te f) : SimS X.K cl W (tAsg te (gName i)) (gOwn i f) := by
  intro H0 d D' ε σ H en q h
  show te σ H _
  refine s.runS en q h fun y v H' _ sm rp fr hk => ?_
  exact en.nx _ _ _ (q.putOwn hk.1 hk.2.1 (boxy_of hk.2.2.1 rp) hk.2.2.2.1 sm rp fr) hk.2.2.2.2
theorem s_own {i : Nat} {x : Str} (he : QF X cl W e te f) (hN : X.N.Nodup) (hi : X.N[i]? = some x) (hx : Loc X.env.scope x) (hs : swapsWith e (some (.Name x pos')) pos.line X.env = pure false := by rfl) (hf : X.fn x = true ∨ X.env.scope.names.lookup x = some .local := by first | exact .inl rfl | exact .inr rfl | assumption) :
    QS X cl W (.Assign [.Name x pos'] e pos) (tAsg te (gName i)) (gOwn i f) := ⟨ps_set hN hi hx he.pe hs hf, own_sim he.sim⟩
theorem set_sim {i : Nat} (s : SimF X.K cl W te f) : SimS X.K cl W (tAsg te (gName i)) (gSet i f) := by
  intro H0 d D' ε σ H en q h
  show te σ H _
  refine s.runS en q h fun y v H' _ sm rp fr hk => ?_
  exact en.nx _ _ _ (q.put hk.1 hk.2.1 sm rp fr) hk.2.2
/-! ### if, return, an expression by itself -/
def gIf (f : Dv → Res Bool) (g k : DS) : DS := fun d ε => (f (view ε)).on (fun b => if b = true then g d ε else k d ε) (fun c => d.ex c ε)
theorem s_if (hc : QT X cl W c tc fb) (ha : QSs X cl W sa t g) (hb : QSs X cl W sb u k) : QS X cl W (.If c sa sb pos) (tIfS tc t u) (gIf fb g k) := by
  refine ⟨ps_if hc.pe ha.ps hb.ps, fun H0 d D' ε σ H en q h => ?_⟩
  show tc σ H _
  refine hc.sim.runS en q h fun b H' _ sm hk => ?_
  cases b with
  | true => exact ha.sim H0 d D' ε σ H' en (q.mono sm) hk
  | false => exact hb.sim H0 d D' ε σ H' en (q.mono sm) hk
def gRet (f : Dv → Res D) : DS := fun d ε => (f (view ε)).on d.rt (fun c => d.ex c ε)
theorem s_ret (he : QF X cl W e te f) : QS X cl W (.Return (some e) pos) (tRet te) (gRet f) := by
  refine ⟨ps_ret he.pe, fun H0 d D' ε σ H en q h => ?_⟩
  show te σ H _
  refine he.sim.runS en q h fun y v H' _ sm rp fr hk => ?_
  exact en.rt y v H' (q.1.same.trans sm) rp (fr.back q.1.same) hk
/-- return of a name that holds a list of the body's own -/
def gRetOwn (i : Nat) : DS := fun d ε => ∃ x, ε[i]? = some (some (.ow x)) ∧ d.rt x
theorem s_retOwn {i : Nat} (he : PE X e (tVar i)) : QS X cl W (.Return (some e) pos) (tRet (tVar i)) (gRetOwn i) := by
  refine ⟨ps_ret he, fun H0 d D' ε σ H en q h => ?_⟩
  obtain ⟨x, hx, hr⟩ := h
  obtain ⟨M, t1, b, f0, o, n⟩ := q.1
  obtain ⟨a, h1, h2, h3, h4, h5⟩ := o i x hx
  refine ⟨_, h1, en.rt x _ H q.1.same h5 (fun _ => ⟨a, rfl, ?_⟩) hr⟩
  cases z : H0 a with
  | none => rfl
  | some o =>
    have := t1 a o z
    unfold hide at this
    rw [if_pos h2] at this
    cases this
theorem s_retN : QS X cl W (.Return none pos) tRetN (fun d ε => d.rt .none) := ⟨ps_retN, fun H0 d D' ε σ H en q h => en.rt .none _ H q.1.same rpn (fresh_no rfl) h⟩
def gDrop (f : Dv → Res D) : DS := fun d ε => (f (view ε)).on (fun _ => d.nx ε) (fun c => d.ex c ε)
theorem s_expr (he : QE X cl W e te f) (hs : swapsWith e none pos.line X.env = pure false := by rfl) : QS X cl W (.Expr e pos) (tDrop te) (gDrop f) := by
  refine ⟨ps_expr he.pe hs, fun H0 d D' ε σ H en q h => ?_⟩
  show te σ H _
  refine he.sim.runS en q h fun y v H' _ sm rp hk => ?_
  exact en.nx _ _ _ (q.mono sm) hk
/-- an own list, from now on read only: a step of thought before a statement -/
def gFz (i : Nat) (g : DS) : DS := fun d ε => ∃ x, ε[i]? = some (some (.ow x)) ∧ g d (ε.set i (some (.fz x)))
theorem fz {i : Nat} (h : QS X cl W st t g) : QS X cl W st t (gFz i g) := by
  refine ⟨h.ps, fun H0 d D' ε σ H en q hh => ?_⟩
  obtain ⟨x, hx, hg⟩ := hh
  exact h.sim H0 d D' _ σ H en (q.freeze hx) hg
/-! ### raise -/
theorem s_raise {t0 : L2.St → Hp → XK → Prop} {n : Nat} (h : PS X st (fun _ σ H => t0 σ H fun cls d H' => W cls d σ H')) (ht : ∀ σ H Q, Q (.ref (cl n)) none H → t0 σ H Q) : QS X cl W st (fun _ σ H => t0 σ H fun cls d H' => W cls d σ H') (fun d ε => d.ex n ε) :=
  ⟨h, fun H0 d D' ε σ H en q hh => ht σ H _ (en.ex n ε σ H q hh)⟩
/-! ### while -/
def gWhile (f : Dv → Res Bool) (g : DS) : DS := fun d ε => ∃ I : Nat → Env → Prop, (∃ m, I m ε) ∧ ∀ m ε', I m ε' →
  (f (view ε')).on (fun b => if b = true then ∃ N : Env → Prop, (∀ ε2, N ε2 → ∃ m', m' < m ∧ I m' ε2) ∧ g { d with nx := N, ct := N, bk := d.nx } ε' else d.nx ε') (fun c => d.ex c ε')
theorem s_while (hp : PassesOwn (model X.prog X.w) X.A X.env X.xe) (hc : QT X cl W c tc fb) (hb : QSs X cl W sa t g) : QS X cl W (.While c sa [] pos) (tWhile tc t) (gWhile fb g) := by
  refine ⟨ps_while hp hc.pe hb.ps, fun H0 d D' ε σ H en q h => ?_⟩
  obtain ⟨I, ⟨m0, i0⟩, step⟩ := h
  refine ⟨fun m σ' H' => ∃ ε', SQ X.K H0 ε' σ' H' ∧ I m ε', ⟨m0, ε, q, i0⟩, fun m σ' H' hw => ?_⟩
  obtain ⟨ε', q', i'⟩ := hw
  refine hc.sim.runS en q' (step m ε' i') fun b H1 _ sm hk => ?_
  cases b with
  | true =>
    obtain ⟨N, hN, hg⟩ := hk
    show ∃ N : L2.St → Hp → Prop, _
    refine ⟨fun σ2 H2 => ∃ ε2, SQ X.K H0 ε2 σ2 H2 ∧ N ε2, fun σ2 H2 ⟨ε2, q2, n2⟩ => ?_, ?_⟩
    · obtain ⟨m', hm, im⟩ := hN ε2 n2
      exact ⟨m', hm, ε2, q2, im⟩
    · exact hb.sim H0 { d with nx := N, ct := N, bk := d.nx } _ ε' σ' H1 ⟨fun ε σ H a b => ⟨ε, a, b⟩, en.rt, en.ex, en.nx, fun ε σ H a b => ⟨ε, a, b⟩⟩ (q'.mono sm) hg
  | false => exact en.nx _ _ _ (q'.mono sm) hk
end
end DL
namespace DL
open PySem L2
/-- J gives the data xs, one after the other, while what stands in B stands -/
def WalkD (K : Fg) (B : Hp) (J : It) (xs : List D) : Prop := ∃ (G : Hp → Prop) (Y : Nat → Hp → V → Hp → Prop), Walk J xs.length G Y ∧ (∀ H, Same B H → G H) ∧
  ∀ i H x H', i < xs.length → Same B H → Y i H x H' → Same H H' ∧ ∃ d, xs[i]? = some d ∧ Rp K H' d x
theorem WalkD.mono {K : Fg} {B B' : Hp} {J : It} {xs : List D} (s : Same B B') (h : WalkD K B J xs) : WalkD K B' J xs := by
  obtain ⟨G, Y, w, g, y⟩ := h
  exact ⟨G, Y, w, fun H e => g H (s.trans e), fun i H x H' hi e => y i H x H' hi (s.trans e)⟩
def SimI (K : Fg) (cl : Nat → Addr) (W : WX) (wi : TI) (f : Dv → Res (List D)) : Prop := ∀ (δ : Dv) (σ : L2.St) (H : Hp) (R : It → Hp → Prop), EnvD K H σ δ →
  (f δ).on (fun xs => ∀ J H1, Same H H1 → (∀ M : List Addr, (∀ a ∈ M, Boxy H a) → WalkD K (hide H1 M) J xs) → R J H1) (fun c => ∀ H', Same H H' → W (.ref (cl c)) none σ H') → wi σ H R
/-- .. within an expression, where nothing changes -/
def SimJ (K : Fg) (cl : Nat → Addr) (W : WX) (wi : TI) (f : Dv → Res (List D)) : Prop := ∀ (δ : Dv) (σ : L2.St) (H : Hp) (R : It → Hp → Prop), EnvD K H σ δ →
  (f δ).on (fun xs => ∀ J H1, Same H H1 → WalkD K H1 J xs → R J H1) (fun c => ∀ H', Same H H' → W (.ref (cl c)) none σ H') → wi σ H R
structure QI (X : Cx) (cl : Nat → Addr) (W : WX) (tg e : Expr) (wi : TI) (f : Dv → Res (List D)) : Prop where
  pi : PI X tg e wi
  sim : SimI X.K cl W wi f
structure QJ (X : Cx) (cl : Nat → Addr) (W : WX) (tg e : Expr) (wi : TI) (f : Dv → Res (List D)) : Prop where
  pi : PI X tg e wi
  sim : SimJ X.K cl W wi f
theorem QI.qj {X : Cx} {cl : Nat → Addr} {W : WX} {tg e : Expr} {wi : TI} {f : Dv → Res (List D)} (h : QI X cl W tg e wi f) : QJ X cl W tg e wi f := by
  refine ⟨h.pi, fun δ σ H R en po => h.sim δ σ H R en ?_⟩
  cases r : f δ with
  | ok xs => rw [r] at po; exact fun J H1 s w => po J H1 s (WalkD.mono (hide_same _ _) (w [] fun a ha => by cases ha))
  | exc c => rw [r] at po; exact po
  | stuck => rw [r] at po; exact po
/-! ### a list, a tuple, a text -/
def iAny (K : Fg) (te : TE) : TI := fun σ H R => te σ H fun x H1 => (∃ a xs, x = .ref a ∧ SqL K H1 a xs ∧ R (Itl K a) H1) ∨ (∃ a xs, x = .ref a ∧ SqT K H1 a xs ∧ R (Itt K a) H1) ∨ ∃ z, x = .str z ∧ R (Its z) H1
theorem pi_any {X : Cx} {tg e : Expr} {te : TE} (he : PE X e te) : PI X tg e (iAny X.K te) := by
  refine ⟨fun pins s σ H R I h => ?_⟩
  refine thn (he.run pins s σ H _ I h) fun v s1 ⟨x, H1, I1, r1, q1⟩ => ?_
  rcases q1 with ⟨a, xs, e, hq, q⟩ | ⟨a, xs, e, hq, q⟩ | ⟨x, e, q⟩
  · subst e
    cases r1
    obtain ⟨its, rv, p, hz⟩ := I1.list hq
    refine wpAny_pyIter_list p.isList ?_
    refine ⟨s1.heap.objs.size, [s1.heap.objs.size], _, _, H1, rfl, I1.kept (t' := s1.toks) fun b o e => Heap.get?_push_of_some _ e, turn_list a _, ⟨_, Heap.get?_push_size _ rfl, rfl, rfl⟩, fun b hb => ?_, q⟩
    have e : b = s1.heap.objs.size := by simpa using hb
    subst e
    exact I1.fpOk (Nat.le_refl _) (I1.hok.fresh (Nat.le_refl _))
  · subst e
    cases r1
    obtain ⟨its, rv, p, hz⟩ := I1.tuple hq
    refine wpAny_pyIter_tuple (show s1.heap.IsTuple a its.toArray from p) ?_
    refine ⟨s1.heap.objs.size, [s1.heap.objs.size], _, _, H1, rfl, I1.kept (t' := s1.toks) fun b o e => Heap.get?_push_of_some _ e, turn_tuple a _, ⟨_, Heap.get?_push_size _ rfl, rfl, rfl⟩, fun b hb => ?_, q⟩
    have e : b = s1.heap.objs.size := by simpa using hb
    subst e
    exact I1.fpOk (Nat.le_refl _) (I1.hok.fresh (Nat.le_refl _))
  · subst e
    obtain ⟨t, rfl⟩ := r1
    cases ha : x.cps.all (· < 128)
    · exact wpAny_pyIter_wide ha (pi_one (tk := s1.toks) I1 _ (turn_str _ x t "str_iterator" (.inr rfl)) ⟨_, Heap.get?_push_size _ rfl, rfl, rfl⟩ q)
    · exact wpAny_pyIter_ascii ha (pi_one (tk := s1.toks) I1 _ (turn_str _ x t "str_ascii_iterator" (.inl rfl)) ⟨_, Heap.get?_push_size _ rfl, rfl, rfl⟩ q)
/-- the items of a datum -/
def items : D → Res (List D)
  | .list l => .ok l
  | .tuple l => .ok l
  | .str l => .ok (l.map fun c => .str [c])
  | _ => .stuck
theorem items_ne (d : D) (c : Nat) : items d ≠ .exc c := by
  unfold items
  split <;> (intro z; cases z)
theorem walkD_t {K : Fg} {B : Hp} {a : Addr} {xs : List V} {l : List D} (h : SqT K B a xs) (r : RpAll K B l xs) : WalkD K B (Itt K a) l := by
  have w := walk_tup (K := K) (a := a) (xs := xs)
  rw [r.length] at w
  refine ⟨_, _, w, fun H s => same_t s h, fun i H x H' hi s y => ?_⟩
  obtain ⟨rfl, hx⟩ := y
  obtain ⟨d, h1, h2⟩ := r.get hx
  exact ⟨Same.refl _, d, h1, Rp.mono s _ _ h2⟩
theorem walkD_l {K : Fg} {B : Hp} {a : Addr} {xs : List V} {l : List D} (h : SqL K B a xs) (r : RpAll K B l xs) : WalkD K B (Itl K a) l := by
  have w := walk_list (K := K) (a := a) (xs := xs)
  rw [r.length] at w
  refine ⟨_, _, w, fun H s => same_l s h, fun i H x H' hi s y => ?_⟩
  obtain ⟨rfl, hx⟩ := y
  obtain ⟨d, h1, h2⟩ := r.get hx
  exact ⟨Same.refl _, d, h1, Rp.mono s _ _ h2⟩
theorem walkD_s {K : Fg} {B : Hp} (l : List Nat) : WalkD K B (Its (S l)) (l.map fun c => .str [c]) := by
  have w := walk_str (z := S l)
  have e : (S l).cps.size = (l.map fun c => (D.str [c])).length := by simp [S]
  rw [e] at w
  refine ⟨_, _, w, fun H s => trivial, fun i H x H' hi s y => ?_⟩
  obtain ⟨rfl, c, hc, rfl⟩ := y
  refine ⟨Same.refl _, .str [c], ?_, by unfold Rp; rfl⟩
  have e2 : l[i]? = some c := by simpa [S] using hc
  rw [List.getElem?_map, e2]
  rfl
section
variable {X : Cx} {cl : Nat → Addr} {W : WX} {tg e : Expr} {te : TE} {f : Dv → Res D}
def dItems (f : Dv → Res D) : Dv → Res (List D) := fun δ => (f δ).bind items
/-- items of a list: all without lists within -/
def itemsF : D → Res (List D)
  | .list l => Res.need (immAll l = true) (.ok l)
  | .tuple l => Res.need (immAll l = true) (.ok l)
  | .str l => .ok (l.map fun c => .str [c])
  | _ => .stuck
theorem i_any (he : QF X cl W e te f) : QI X cl W tg e (iAny X.K te) (fun δ => (f δ).bind itemsF) := by
  refine ⟨pi_any he.pe, fun δ σ H R en po => ?_⟩
  show te σ H _
  refine he.sim δ σ H _ en ?_
  change ((f δ).bind itemsF).on _ _ at po
  cases r : f δ with
  | exc c => rw [r] at po; exact po
  | stuck => rw [r] at po; exact po
  | ok d =>
    rw [r, Res.ok_bind] at po
    intro v H1 s rp fr
    cases d with
    | list l =>
      obtain ⟨im, po⟩ := need_on po
      obtain ⟨a, xs, rfl, ha, hx⟩ := rp_list rp
      obtain ⟨p, hp, hn⟩ := fr rfl
      cases hp
      refine .inl ⟨a, xs, rfl, Or.inl (Or.inl ha), po _ H1 s fun M bM => ?_⟩
      have na : a ∉ M := fun hm => by
        exact (bM a hm).nn hn
      exact walkD_l (Or.inl (Or.inl (by rw [hide_ne na]; exact ha))) (RpAll.hide (fun b hb => (bM b hb).mono s) l xs im hx)
    | tuple l =>
      obtain ⟨im, po⟩ := need_on po
      obtain ⟨a, xs, rfl, ha, hx⟩ := rp_tup rp
      exact .inr (.inl ⟨a, xs, rfl, ha, po _ H1 s fun M bM => walkD_t (hide_t (fun b hb => (bM b hb).mono s) ha) (RpAll.hide (fun b hb => (bM b hb).mono s) l xs im hx)⟩)
    | str l =>
      obtain rfl := rp_str rp
      exact .inr (.inr ⟨S l, rfl, po _ H1 s fun M _ => walkD_s l⟩)
    | _ => exact po.elim
theorem j_any (he : QE X cl W e te f) : QJ X cl W tg e (iAny X.K te) (dItems f) := by
  refine ⟨pi_any he.pe, fun δ σ H R en po => ?_⟩
  show te σ H _
  refine he.sim δ σ H _ en ?_
  change ((f δ).bind items).on _ _ at po
  cases r : f δ with
  | exc c => rw [r] at po; exact po
  | stuck => rw [r] at po; exact po
  | ok d =>
    rw [r, Res.ok_bind] at po
    intro v H1 s rp
    cases d with
    | list l =>
      obtain ⟨a, xs, rfl, ha, hx⟩ := rp_list rp
      exact .inl ⟨a, xs, rfl, Or.inl (Or.inl ha), po _ H1 s (walkD_l (Or.inl (Or.inl ha)) hx)⟩
    | tuple l =>
      obtain ⟨a, xs, rfl, ha, hx⟩ := rp_tup rp
      exact .inr (.inl ⟨a, xs, rfl, ha, po _ H1 s (walkD_t ha hx)⟩)
    | str l =>
      obtain rfl := rp_str rp
      exact .inr (.inr ⟨S l, rfl, po _ H1 s (walkD_s l)⟩)
    | _ => exact po.elim
/-! ### range -/
def rng (lo : Int) (n : Nat) : List D := (List.range n).map fun (i : Nat) => D.int (lo + (i : Int))
theorem rng_len (lo : Int) (n : Nat) : (rng lo n).length = n := by simp [rng]
theorem rng_get {lo : Int} {n i : Nat} (h : i < n) : (rng lo n)[i]? = some (.int (lo + (i : Int))) := by
  unfold rng
  rw [List.getElem?_map, List.getElem?_range h]
  rfl
def iR1 : List D → Res (List D)
  | [.int j] => Res.need (j.natAbs ≤ big) (.ok (rng 0 j.toNat))
  | _ => .stuck
def iR2 : List D → Res (List D)
  | [.int i, .int j] => Res.need (i.natAbs ≤ big ∧ j.natAbs ≤ big) (.ok (rng i (j - i).toNat))
  | _ => .stuck
theorem walkD_r {K : Fg} {B : Hp} (lo : Int) (n : Nat) : WalkD K B (Itr lo n) (rng lo n) := by
  have w := walk_range (lo := lo) (n := n)
  refine ⟨_, _, by rw [rng_len]; exact w, fun H s => trivial, fun i H x H' hi s y => ?_⟩
  obtain ⟨rfl, rfl⟩ := y
  rw [rng_len] at hi
  exact ⟨Same.refl _, _, rng_get hi, rpi _⟩
variable {ta : TA} {gs : Dv → Res (List D)} {a b : Expr} {p pos : Pos}
theorem i_range1 (hm : X.mg "range" = none) (ha : QA X cl W [a] ta gs) (hg : Gl X "range" := by rfl) (hs : starEach [a] X.env = [(false, eval a X.env)] := by rfl) : QI X cl W tg (.Call (.Name "range" p) [a] [] pos) (iRng1 ta) (fun δ => (gs δ).bind iR1) := by
  refine ⟨pi_range1 hg hm ha.pe hs, fun δ σ H R en po => ?_⟩
  show ta σ H _
  refine ha.sim δ σ H _ en ?_
  change ((gs δ).bind iR1).on _ _ at po
  cases r : gs δ with
  | exc c => rw [r] at po; exact po
  | stuck => rw [r] at po; exact po
  | ok ds =>
    rw [r, Res.ok_bind] at po
    intro vs H1 s rp
    unfold iR1 at po
    split at po
    · obtain ⟨hc, po⟩ := need_on po
      unfold big at hc
      unfold RpAll at rp
      obtain ⟨v, q, rfl, hv, hq⟩ := rp
      unfold RpAll at hq
      subst hq
      obtain rfl := rp_int hv
      exact ⟨_, rfl, by omega, by omega, po _ H1 s fun M _ => walkD_r 0 _⟩
    · exact po.elim
theorem i_range2 (hm : X.mg "range" = none) (ha : QA X cl W [a, b] ta gs) (hg : Gl X "range" := by rfl) (hs : starEach [a, b] X.env = [(false, eval a X.env), (false, eval b X.env)] := by rfl) (hs2 : starEach [b] X.env = [(false, eval b X.env)] := by rfl) :
    QI X cl W tg (.Call (.Name "range" p) [a, b] [] pos) (iRng2 ta) (fun δ => (gs δ).bind iR2) := by
  refine ⟨pi_range2 hg hm ha.pe hs hs2, fun δ σ H R en po => ?_⟩
  show ta σ H _
  refine ha.sim δ σ H _ en ?_
  change ((gs δ).bind iR2).on _ _ at po
  cases r : gs δ with
  | exc c => rw [r] at po; exact po
  | stuck => rw [r] at po; exact po
  | ok ds =>
    rw [r, Res.ok_bind] at po
    intro vs H1 s rp
    unfold iR2 at po
    split at po
    · obtain ⟨hc, po⟩ := need_on po
      unfold big at hc
      unfold RpAll at rp
      obtain ⟨v, q, rfl, hv, hq⟩ := rp
      unfold RpAll at hq
      obtain ⟨v2, q2, rfl, hv2, hq2⟩ := hq
      unfold RpAll at hq2
      subst hq2
      obtain rfl := rp_int hv
      obtain rfl := rp_int hv2
      exact ⟨_, _, rfl, ⟨by omega, by omega, by omega, by omega⟩, po _ H1 s fun M _ => walkD_r _ _⟩
    · exact po.elim
/-! ### targets: a name; names in a tuple -/
/-- the target takes the datum -/
def SimG (K : Fg) (g : TG) (k : D → Env → Option Env) : Prop := ∀ (H0 H H' : Hp) (ε ε' : Env) (σ : L2.St) (d : D) (v : V) (Q : L2.St → Hp → Prop), SQ K H0 ε σ H → Same H H' → Rp K H' d v → imm d = true → k d ε = some ε' →
  (∀ σ', SQ K H0 ε' σ' H' → Q σ' H') → g v σ H' Q
structure QG (X : Cx) (tg : Expr) (g : TG) (k : D → Env → Option Env) : Prop where
  pg : PG X tg g
  sim : SimG X.K g k
theorem calm_imm {d : D} (h : imm d = true) : calm d = true := by
  cases d with
  | list l => unfold imm at h; cases h
  | dicK _ _ => unfold imm at h; cases h
  | dicT _ _ => unfold imm at h; cases h
  | _ => exact h
theorem imm_box {d : D} (h : imm d = true) : isBox d = false := by
  cases d with
  | list l => unfold imm at h; cases h
  | dicK _ _ => unfold imm at h; cases h
  | dicT _ _ => unfold imm at h; cases h
  | scr _ => unfold imm at h; cases h
  | _ => rfl
def kName (i : Nat) : D → Env → Option Env := fun d ε => if i < ε.length then some (ε.set i (some (.fz d))) else none
theorem g_name {i : Nat} {x : Str} (hN : X.N.Nodup) (hi : X.N[i]? = some x) (hx : Loc X.env.scope x) (hf : X.fn x = true ∨ X.env.scope.names.lookup x = some .local := by first | exact .inl rfl | exact .inr rfl | assumption) : QG X (.Name x pos) (gName i) (kName i) := by
  refine ⟨pg_name hN hi hx hf, fun H0 H H' ε ε' σ d v Q q s r im k h => ?_⟩
  unfold kName at k
  split at k
  · cases k
    exact h _ (q.put (by assumption) (calm_imm im) s r (fresh_no (imm_box im)))
  · cases k
def SimGs (K : Fg) (g : TGs) (k : List D → Env → Option Env) : Prop := ∀ (H0 H : Hp) (ε ε' : Env) (σ : L2.St) (ds : List D) (vs : List V) (Q : L2.St → Hp → Prop), SQ K H0 ε σ H → RpAll K H ds vs → immAll ds = true → k ds ε = some ε' →
  (∀ σ', SQ K H0 ε' σ' H → Q σ' H) → g vs σ H Q
structure QGs (X : Cx) (tgs : List Expr) (g : TGs) (k : List D → Env → Option Env) : Prop where
  pg : PGs X tgs g
  sim : SimGs X.K g k
def kNil : List D → Env → Option Env := fun ds ε => if ds.isEmpty then some ε else none
def kCons (k : D → Env → Option Env) (ks : List D → Env → Option Env) : List D → Env → Option Env := fun ds ε => match ds with
  | d :: r => (k d ε).bind (ks r)
  | [] => none
theorem gs_nil : QGs X [] gNil kNil := by
  refine ⟨pgs_nil, fun H0 H ε ε' σ ds vs Q q r im k h => ?_⟩
  unfold kNil at k
  cases ds with
  | nil => unfold RpAll at r; cases k; exact ⟨r, h σ q⟩
  | cons _ _ => cases k
theorem gs_cons {e : Expr} {es : List Expr} {t : TG} {u : TGs} {k : D → Env → Option Env} {ks : List D → Env → Option Env} (h1 : QG X e t k) (h2 : QGs X es u ks) (hs : (assignEach (e :: es) X.env).map (·.2) = assign e X.env :: (assignEach es X.env).map (·.2) := by rfl) : QGs X (e :: es) (gCons t u) (kCons k ks) := by
  refine ⟨pgs_cons h1.pg h2.pg hs, fun H0 H ε ε' σ ds vs Q q r im kk h => ?_⟩
  cases ds with
  | nil => cases kk
  | cons d ds =>
    unfold RpAll at r
    unfold immAll at im
    rw [Bool.and_eq_true] at im
    obtain ⟨v, w, rfl, r1, r2⟩ := r
    refine ⟨v, w, rfl, ?_⟩
    change (k d ε).bind (ks ds) = some ε' at kk
    cases e1 : k d ε with
    | none => rw [e1] at kk; cases kk
    | some ε1 =>
      rw [e1] at kk
      exact h1.sim H0 H H ε ε1 σ d v _ q (Same.refl H) r1 im.1 e1 fun σ1 q1 => h2.sim H0 H ε1 ε' σ1 ds w Q q1 r2 im.2 kk h
def kTup (ks : List D → Env → Option Env) : D → Env → Option Env := fun d ε => match d with
  | .tuple l => ks l ε
  | _ => none
def gTupN (K : Fg) (n : Nat) (t : TGs) : TG := gTup K n t
theorem g_tup {es : List Expr} {kk n : Nat} {t : TGs} {ks : List D → Env → Option Env} (hc : X.calm = true) (h : QGs X es t ks) (hn : (assignEach es X.env).length = n := by rfl) (hst : (assignEach es X.env).findIdx? (·.1) = none := by rfl)
    (hl : ∀ ds ε, ds.length ≠ n → ks ds ε = none := by intro ds ε h; match ds, h with | _, _ => rfl) : QG X (.Tuple es kk pos) (gTup X.K n t) (kTup ks) := by
  refine ⟨pg_tup hc h.pg hn hst, fun H0 H H' ε ε' σ d v Q q s r im k hq => ?_⟩
  cases d with
  | tuple l =>
    obtain ⟨a, xs, rfl, ha, hx⟩ := rp_tup r
    change ks l ε = some ε' at k
    refine ⟨a, xs, rfl, ha, ?_, ?_⟩
    · rw [hx.length]
      by_cases hh : l.length = n
      · exact hh
      · rw [hl l ε hh] at k; cases k
    · unfold imm at im
      exact h.sim H0 H' ε ε' σ l xs Q (q.mono s) hx im k hq
  | _ => cases k
/-! ### for -/
def gFor (f : Dv → Res (List D)) (k : D → Env → Option Env) (g : DS) : DS := fun d ε => (f (view ε)).on (fun xs => ∃ I : Nat → Env → Prop, I 0 ε ∧
  (∀ i x ε', xs[i]? = some x → I i ε' → imm x = true ∧ ∃ ε2, k x ε' = some ε2 ∧ g { d with nx := I (i + 1), ct := I (i + 1), bk := d.nx } ε2) ∧ ∀ ε', I xs.length ε' → d.nx ε') (fun c => d.ex c ε)
theorem s_for {iter : Expr} {body : List Stmt} {wi : TI} {g : TG} {tb : TS} {fi : Dv → Res (List D)} {k : D → Env → Option Env} {gb : DS} (hp : PassesOwn (model X.prog X.w) X.A X.env X.xe) (hc : X.calm = true) (hi : QI X cl W tg iter wi fi) (hg : QG X tg g k) (hb : QSs X cl W body tb gb)
    (hs : ∀ x, foldedSetIterable iter X.env x = pure x := by intro _; rfl) : QS X cl W (.For tg iter body [] pos) (tFor wi g tb) (gFor fi k gb) := by
  refine ⟨ps_for hp hc hi.pi hg.pg hb.ps hs, fun H0 d D' ε σ H en q h => ?_⟩
  change (fi (view ε)).on _ _ at h
  show wi σ H _
  refine hi.sim (view ε) σ H _ q.env ?_
  cases r : fi (view ε) with
  | exc c => rw [r] at h; exact fun H' sm => en.ex c ε σ H' (q.mono sm) h
  | stuck => rw [r] at h; exact h.elim
  | ok xs =>
    rw [r] at h
    obtain ⟨I, i0, step, fin⟩ := h
    intro J H1 s w
    obtain ⟨⟨M, t1, b, f0, o, n⟩, len⟩ := id q
    obtain ⟨G, Y, wk, hG, hY⟩ := w M b
    have q1 : SQ X.K (hide H1 M) ε σ H1 := by
      obtain ⟨⟨M', t1', b', f0', o', n'⟩, len'⟩ : SQ X.K H0 ε σ H1 := q.mono s
      refine ⟨⟨M, Same.refl _, fun a ha => (b a ha).mono s, fun i d e => ?_, fun i d e => ?_, n⟩, len⟩
      · obtain ⟨v, h1, h2⟩ := f0 i d e
        exact ⟨v, h1, Rp.mono (hide_mono s) _ _ h2⟩
      · obtain ⟨a, h1, h2, h3, h4, h5⟩ := o i d e
        exact ⟨a, h1, h2, h3, h4, Rp.mono s _ _ h5⟩
    have sB : Same H0 (hide H1 M) := t1.trans (hide_mono s)
    have enB := en.raise sB
    refine for_it wk (fun i σ' H' => ∃ ε', SQ X.K (hide H1 M) ε' σ' H' ∧ I i ε') ⟨ε, q1, i0⟩ (fun i σ' H' _ ⟨ε', q', _⟩ => hG H' q'.1.same) (fun i x σ' H' H2 hi ⟨ε', q', i'⟩ y => ?_) (fun σ' H' ⟨ε', q', i'⟩ => ?_)
    · obtain ⟨sm, dd, hd, rp⟩ := hY i H' x H2 hi q'.1.same y
      obtain ⟨im, ε2, hk, hgb⟩ := step i dd ε' hd i'
      refine hg.sim (hide H1 M) H' H2 ε' ε2 σ' dd x _ q' sm rp im hk fun σ2 q2 => ?_
      exact hb.sim (hide H1 M) { d with nx := I (i + 1), ct := I (i + 1), bk := d.nx } _ ε2 σ2 H2 ⟨fun ε σ H a b => ⟨ε, a, b⟩, enB.rt, enB.ex, enB.nx, fun ε σ H a b => ⟨ε, a, b⟩⟩ q2 hgb
    · exact enB.nx _ _ _ q' (fin ε' i')
end
end DL
namespace DL
open PySem L2
/-! ### for over a name's list that is only read -/
def gForN (i : Nat) (k : D → Env → Option Env) (g : DS) : DS := fun d ε => ∃ y, ε[i]? = some (some (.fz y)) ∧ (items y).on (fun xs => ∃ I : Nat → Env → Prop, I 0 ε ∧
  (∀ i x ε', xs[i]? = some x → I i ε' → imm x = true ∧ ∃ ε2, k x ε' = some ε2 ∧ g { d with nx := I (i + 1), ct := I (i + 1), bk := d.nx } ε2) ∧ ∀ ε', I xs.length ε' → d.nx ε') (fun c => False)
theorem s_forN {X : Cx} {cl : Nat → Addr} {W : WX} {tg iter : Expr} {body : List Stmt} {g : TG} {tb : TS} {k : D → Env → Option Env} {gb : DS} {pos : Pos} {i : Nat} (hp : PassesOwn (model X.prog X.w) X.A X.env X.xe) (hc : X.calm = true) (hi : PE X iter (tVar i)) (hg : QG X tg g k) (hb : QSs X cl W body tb gb)
    (hs : ∀ x, foldedSetIterable iter X.env x = pure x := by intro _; rfl) : QS X cl W (.For tg iter body [] pos) (tFor (iAny X.K (tVar i)) g tb) (gForN i k gb) := by
  refine ⟨ps_for hp hc (pi_any hi) hg.pg hb.ps hs, fun H0 d D' ε σ H en q h => ?_⟩
  obtain ⟨y, hy, h⟩ := h
  obtain ⟨⟨M, t1, b, f0, o, n⟩, len⟩ := id q
  obtain ⟨v, hv, rv⟩ := f0 i y hy
  have q1 : SQ X.K (hide H M) ε σ H := ⟨⟨M, Same.refl _, b, f0, o, n⟩, len⟩
  have enB := en.raise t1
  have core : ∀ (J : It) (xs : List D), items y = .ok xs → WalkD X.K (hide H M) J xs → ∃ W : Nat → Nat → L2.St → Hp → Prop, (∃ m, W 0 m σ H) ∧ ∀ i m σ H, W i m σ H →
      (J.stop i H ∧ D'.nx σ H) ∨ (J.go i H ∧ ∃ N : L2.St → Hp → Prop, (∀ σ' H', N σ' H' → ∃ m', m' < m ∧ W (i + 1) m' σ' H') ∧ ∀ x H', J.yld i H x H' → g x σ H' fun σ2 H2 => tb { D' with nx := N, ct := N, bk := D'.nx } σ2 H2) := by
    intro J xs e w
    rw [e] at h
    obtain ⟨I, i0, step, fin⟩ := h
    obtain ⟨G, Y, wk, hG, hY⟩ := w
    refine for_it wk (fun i σ' H' => ∃ ε', SQ X.K (hide H M) ε' σ' H' ∧ I i ε') ⟨ε, q1, i0⟩ (fun i σ' H' _ ⟨ε', q', _⟩ => hG H' q'.1.same) (fun i x σ' H' H2 hi ⟨ε', q', i'⟩ y => ?_) (fun σ' H' ⟨ε', q', i'⟩ => ?_)
    · obtain ⟨sm, dd, hd, rp⟩ := hY i H' x H2 hi q'.1.same y
      obtain ⟨im, ε2, hk, hgb⟩ := step i dd ε' hd i'
      refine hg.sim (hide H M) H' H2 ε' ε2 σ' dd x _ q' sm rp im hk fun σ2 q2 => ?_
      exact hb.sim (hide H M) { d with nx := I (i + 1), ct := I (i + 1), bk := d.nx } _ ε2 σ2 H2 ⟨fun ε σ H a b => ⟨ε, a, b⟩, enB.rt, enB.ex, enB.nx, fun ε σ H a b => ⟨ε, a, b⟩⟩ q2 hgb
    · exact enB.nx _ _ _ q' (fin ε' i')
  refine ⟨v, hv, ?_⟩
  cases y with
  | list l =>
    obtain ⟨a, xs, rfl, ha, hx⟩ := rp_list rv
    exact .inl ⟨a, xs, rfl, Or.inl (Or.inl (hide_same _ _ _ _ ha)), core _ l rfl (walkD_l (Or.inl (Or.inl ha)) hx)⟩
  | tuple l =>
    obtain ⟨a, xs, rfl, ha, hx⟩ := rp_tup rv
    exact .inr (.inl ⟨a, xs, rfl, same_t (hide_same _ _) ha, core _ l rfl (walkD_t ha hx)⟩)
  | str l =>
    obtain rfl := rp_str rv
    exact .inr (.inr ⟨S l, rfl, core _ _ rfl (walkD_s l)⟩)
  | _ => exact h.elim
/-! ### a target's length -/
def LenK (n : Nat) (ks : List D → Env → Option Env) : Prop := ∀ ds ε, ds.length ≠ n → ks ds ε = none
theorem lenK_nil : LenK 0 kNil := fun ds ε h => by
  cases ds with
  | nil => exact (h rfl).elim
  | cons _ _ => rfl
theorem lenK_cons {n : Nat} {k : D → Env → Option Env} {ks : List D → Env → Option Env} (h : LenK n ks) : LenK (n + 1) (kCons k ks) := fun ds ε hl => by
  cases ds with
  | nil => rfl
  | cons d ds =>
    show (k d ε).bind (ks ds) = none
    cases e : k d ε with
    | none => rfl
    | some ε1 => exact h ds ε1 fun z => hl (by rw [List.length_cons, z])
/-! ### a comprehension's target, within an expression -/
def SimK (K : Fg) (vs : List Nat) (g : TG) (k : D → Dv → Option Dv) : Prop := ∀ (H : Hp) (σ : L2.St) (δ δ' : Dv) (d : D) (v : V) (Q : L2.St → Hp → Prop), EnvD K H σ δ → Rp K H d v → k d δ = some δ' →
  (∀ σ', EnvD K H σ' δ' → wipe σ' vs = wipe σ vs → Q σ' H) → g v σ H Q
def SimKs (K : Fg) (vs : List Nat) (g : TGs) (k : List D → Dv → Option Dv) : Prop := ∀ (H : Hp) (σ : L2.St) (δ δ' : Dv) (ds : List D) (us : List V) (Q : L2.St → Hp → Prop), EnvD K H σ δ → RpAll K H ds us → k ds δ = some δ' →
  (∀ σ', EnvD K H σ' δ' → wipe σ' vs = wipe σ vs → Q σ' H) → g us σ H Q
theorem wipe_set {σ : L2.St} {i : Nat} {a : Option V} : ∀ {vs : List Nat}, i ∈ vs → wipe (σ.set i a) vs = wipe σ vs
  | [], h => by cases h
  | v :: vs, h => by
    unfold wipe
    by_cases q : i ∈ vs
    · rw [wipe_set q]
    · have e : i = v := by
        rcases List.mem_cons.mp h with e | e
        · exact e
        · exact (q e).elim
      subst e
      have cm : ∀ ws : List Nat, i ∉ ws → wipe (σ.set i a) ws = (wipe σ ws).set i a := by
        intro ws
        induction ws with
        | nil => intro _; rfl
        | cons w ws ih =>
          intro hn
          have h1 : i ≠ w := fun z => hn (by rw [z]; exact List.mem_cons_self)
          have h2 : i ∉ ws := fun z => hn (List.mem_cons_of_mem _ z)
          unfold wipe
          rw [ih h2, List.set_comm _ _ h1]
      rw [cm vs q, List.set_set]
theorem wipe_wipe (σ : L2.St) (vs : List Nat) : wipe (wipe σ vs) vs = wipe σ vs := by
  have key : ∀ (us ws : List Nat) (τ : L2.St), (∀ u ∈ us, u ∈ ws) → wipe (wipe τ us) ws = wipe τ ws := by
    intro us
    induction us with
    | nil => intro ws τ _; rfl
    | cons u us ih =>
      intro ws τ h
      show wipe ((wipe τ us).set u none) ws = wipe τ ws
      rw [wipe_set (h u List.mem_cons_self)]
      exact ih ws τ fun x hx => h x (List.mem_cons_of_mem _ hx)
  exact key vs vs σ fun _ h => h
def wipeD (δ : Dv) : List Nat → Dv
  | [] => δ
  | v :: vs => (wipeD δ vs).set v none
theorem wipeD_env {K : Fg} {H : Hp} {σ : L2.St} {δ : Dv} (h : EnvD K H σ δ) : ∀ vs, EnvD K H (wipe σ vs) (wipeD δ vs)
  | [] => h
  | v :: vs => ⟨by unfold wipeD wipe; rw [List.length_set, List.length_set]; exact (wipeD_env h vs).1, fun i d e => by
    unfold wipeD at e
    unfold wipe
    rcases set_get e with ⟨_, _, z⟩ | ⟨z1, z2⟩
    · cases z
    · rw [set_out z1]
      exact (wipeD_env h vs).2 i d z2⟩
theorem wipeD_len (δ : Dv) : ∀ vs, (wipeD δ vs).length = δ.length
  | [] => rfl
  | v :: vs => by unfold wipeD; rw [List.length_set, wipeD_len δ vs]
def hName (i : Nat) : D → Dv → Option Dv := fun d δ => if i < δ.length then some (δ.set i (some d)) else none
theorem k_name {K : Fg} {vs : List Nat} {i : Nat} (hi : i ∈ vs) : SimK K vs (gName i) (hName i) := by
  intro H σ δ δ' d v Q en r k h
  unfold hName at k
  split at k
  · rename_i li
    cases k
    refine h _ ⟨by rw [List.length_set, List.length_set]; exact en.1, fun j e q => ?_⟩ (wipe_set hi)
    rcases set_get q with ⟨rfl, _, z⟩ | ⟨z1, z2⟩
    · cases z
      exact ⟨v, List.getElem?_set_self (Nat.lt_of_lt_of_le li en.1), r⟩
    · rw [set_out z1]
      exact en.2 j e z2
  · cases k
def hNil : List D → Dv → Option Dv := fun ds δ => if ds.isEmpty then some δ else none
def hCons (k : D → Dv → Option Dv) (ks : List D → Dv → Option Dv) : List D → Dv → Option Dv := fun ds δ => match ds with
  | d :: r => (k d δ).bind (ks r)
  | [] => none
def hTup (n : Nat) (ks : List D → Dv → Option Dv) : D → Dv → Option Dv := fun d δ => match d with
  | .tuple l => if l.length = n then ks l δ else none
  | _ => none
theorem ks_nil {K : Fg} {vs : List Nat} : SimKs K vs gNil hNil := by
  intro H σ δ δ' ds us Q en r k h
  unfold hNil at k
  cases ds with
  | nil => unfold RpAll at r; cases k; exact ⟨r, h σ en rfl⟩
  | cons _ _ => cases k
theorem ks_cons {K : Fg} {vs : List Nat} {t : TG} {u : TGs} {k : D → Dv → Option Dv} {ks : List D → Dv → Option Dv} (h1 : SimK K vs t k) (h2 : SimKs K vs u ks) : SimKs K vs (gCons t u) (hCons k ks) := by
  intro H σ δ δ' ds us Q en r kk h
  cases ds with
  | nil => cases kk
  | cons d ds =>
    unfold RpAll at r
    obtain ⟨v, w, rfl, r1, r2⟩ := r
    refine ⟨v, w, rfl, ?_⟩
    change (k d δ).bind (ks ds) = some δ' at kk
    cases e1 : k d δ with
    | none => rw [e1] at kk; cases kk
    | some δ1 =>
      rw [e1] at kk
      exact h1 H σ δ δ1 d v _ en r1 e1 fun σ1 en1 w1 => h2 H σ1 δ1 δ' ds w Q en1 r2 kk fun σ2 en2 w2 => h σ2 en2 (w2.trans w1)
theorem k_tup {K : Fg} {vs : List Nat} {n : Nat} {u : TGs} {ks : List D → Dv → Option Dv} (h2 : SimKs K vs u ks) : SimK K vs (gTup K n u) (hTup n ks) := by
  intro H σ δ δ' d v Q en r kk h
  cases d with
  | tuple l =>
    unfold hTup at kk
    dsimp only at kk
    split at kk
    · rename_i hl
      obtain ⟨a, xs, rfl, ha, hx⟩ := rp_tup r
      exact ⟨a, xs, rfl, ha, by rw [hx.length]; exact hl, h2 H σ δ δ' l xs Q en hx kk h⟩
    · cases kk
  | _ => cases kk
/-! ### the comprehension -/
def compM (f : D → Res (List D)) : List D → Res (List D)
  | [] => .ok []
  | x :: r => (f x).bind fun a => (compM f r).bind fun b => .ok (a ++ b)
/-- one item -/
def compOne (k : D → Dv → Option Dv) (ft : Dv → Res Bool) (fe : Dv → Res D) (δ : Dv) (x : D) : Res (List D) := match k x δ with
  | none => .stuck
  | some δ2 => (ft δ2).bind fun b => if b = true then (fe δ2).bind fun y => if imm y = true then .ok [y] else .stuck else .ok []
def dComp (vs : List Nat) (fi : Dv → Res (List D)) (k : D → Dv → Option Dv) (ft : Dv → Res Bool) (fe : Dv → Res D) : Dv → Res D := fun δ => (fi δ).bind fun xs => Res.need (xs.length ≤ big) ((compM (compOne k ft fe (wipeD δ vs)) xs).bind fun ys => .ok (.list ys))
/-- no exception within: where one would come nothing is said -/
def calmly {α : Type} (r : Res α) : Res α := match r with
  | .ok a => .ok a
  | _ => .stuck
theorem compOne_len {k : D → Dv → Option Dv} {ft : Dv → Res Bool} {fe : Dv → Res D} {δ : Dv} {x : D} {ys : List D} (h : compOne k ft fe δ x = .ok ys) : ys.length ≤ 1 := by
  unfold compOne at h
  split at h
  · cases h
  · cases q : ft _ with
    | exc c => rw [q] at h; cases h
    | stuck => rw [q] at h; cases h
    | ok b =>
      rw [q] at h
      cases b with
      | false => cases h; simp
      | true =>
        rw [Res.ok_bind, if_pos rfl] at h
        cases q2 : fe _ with
        | exc c => rw [q2] at h; cases h
        | stuck => rw [q2] at h; cases h
        | ok y =>
          rw [q2, Res.ok_bind] at h
          split at h
          · cases h; simp
          · cases h
theorem compM_app {f : D → Res (List D)} : ∀ {l m a b : List D}, compM f l = .ok a → compM f m = .ok b → compM f (l ++ m) = .ok (a ++ b)
  | [], m, a, b, h1, h2 => by cases h1; exact h2
  | x :: l, m, a, b, h1, h2 => by
    show (f x).bind (fun c => (compM f (l ++ m)).bind fun d => .ok (c ++ d)) = .ok (a ++ b)
    change (f x).bind (fun c => (compM f l).bind fun d => .ok (c ++ d)) = .ok a at h1
    cases q : f x with
    | exc c => rw [q] at h1; cases h1
    | stuck => rw [q] at h1; cases h1
    | ok c =>
      rw [q, Res.ok_bind] at h1
      cases q2 : compM f l with
      | exc c => rw [q2] at h1; cases h1
      | stuck => rw [q2] at h1; cases h1
      | ok d =>
        rw [q2] at h1
        cases h1
        rw [Res.ok_bind, compM_app q2 h2, Res.ok_bind, List.append_assoc]
theorem compM_take {f : D → Res (List D)} : ∀ {l ys : List D} (i : Nat), compM f l = .ok ys → ∃ zs, compM f (l.take i) = .ok zs
  | [], ys, i, h => by rw [List.take_nil]; exact ⟨ys, h⟩
  | x :: l, ys, 0, h => ⟨[], rfl⟩
  | x :: l, ys, i + 1, h => by
    change (f x).bind (fun c => (compM f l).bind fun d => .ok (c ++ d)) = .ok ys at h
    show ∃ zs, (f x).bind (fun c => (compM f (l.take i)).bind fun d => .ok (c ++ d)) = .ok zs
    cases q : f x with
    | exc c => rw [q] at h; cases h
    | stuck => rw [q] at h; cases h
    | ok c =>
      rw [q, Res.ok_bind] at h
      cases q2 : compM f l with
      | exc c => rw [q2] at h; cases h
      | stuck => rw [q2] at h; cases h
      | ok d =>
        obtain ⟨zs, hz⟩ := compM_take i q2
        exact ⟨c ++ zs, by rw [Res.ok_bind, hz]; rfl⟩
theorem compM_each {f : D → Res (List D)} : ∀ {l ys : List D} {i : Nat} {x : D}, compM f l = .ok ys → l[i]? = some x → ∃ a, f x = .ok a
  | [], ys, i, x, h, e => by cases e
  | z :: l, ys, i, x, h, e => by
    change (f z).bind (fun c => (compM f l).bind fun d => .ok (c ++ d)) = .ok ys at h
    cases q : f z with
    | exc c => rw [q] at h; cases h
    | stuck => rw [q] at h; cases h
    | ok c =>
      rw [q, Res.ok_bind] at h
      cases i with
      | zero => cases e; exact ⟨c, q⟩
      | succ i =>
        cases q2 : compM f l with
        | exc c => rw [q2] at h; cases h
        | stuck => rw [q2] at h; cases h
        | ok d => exact compM_each q2 e
theorem compM_len {f : D → Res (List D)} (hf : ∀ x a, f x = .ok a → a.length ≤ 1) : ∀ {l ys : List D}, compM f l = .ok ys → ys.length ≤ l.length
  | [], ys, h => by cases h; exact Nat.le_refl _
  | x :: l, ys, h => by
    change (f x).bind (fun c => (compM f l).bind fun d => .ok (c ++ d)) = .ok ys at h
    cases q : f x with
    | exc c => rw [q] at h; cases h
    | stuck => rw [q] at h; cases h
    | ok c =>
      rw [q, Res.ok_bind] at h
      cases q2 : compM f l with
      | exc c => rw [q2] at h; cases h
      | stuck => rw [q2] at h; cases h
      | ok d =>
        rw [q2] at h
        cases h
        have h1 := hf x c q
        have h2 := compM_len hf q2
        rw [List.length_append, List.length_cons]
        omega
theorem take_succ_get {α : Type} {l : List α} {i : Nat} {x : α} (h : l[i]? = some x) : l.take (i + 1) = l.take i ++ [x] := by
  rw [List.take_add_one, h]
  rfl
abbrev W0 : WX := fun _ _ _ _ => False
theorem lc_sim {X : Cx} {cl : Nat → Addr} {W : WX} {wi : TI} {fi : Dv → Res (List D)} {vs : List Nat} {g : TG} {k : D → Dv → Option Dv} {tt : TT} {ft : Dv → Res Bool} {te : TE} {fe : Dv → Res D}
    (si : SimJ X.K cl W wi fi) (sg : SimK X.K vs g k) (st : SimT X.K cl W0 tt ft) (se : SimE X.K cl W0 te fe) : SimF X.K cl W (tLc wi g tt te vs) (fun δ => (fi δ).bind fun xs => calmly (Res.need (xs.length ≤ big) ((compM (compOne k ft fe (wipeD δ vs)) xs).bind fun ys => .ok (.list ys)))) := by
  intro δ σ H Q en po
  show wi σ H _
  refine si δ σ H _ en ?_
  change ((fi δ).bind _).on _ _ at po
  cases r : fi δ with
  | exc c => rw [r] at po; exact po
  | stuck => rw [r] at po; exact po
  | ok xs =>
    rw [r, Res.ok_bind] at po
    intro J H1 s1 w Dl hD
    unfold Res.need at po
    split at po
    · rename_i hz
      cases r2 : compM (compOne k ft fe (wipeD δ vs)) xs with
      | exc c => rw [r2] at po; exact po.elim
      | stuck => rw [r2] at po; exact po.elim
      | ok ys =>
        rw [r2] at po
        change ∀ v H', Same H H' → Rp X.K H' (.list ys) v → Fresh H v (.list ys) → Q v H' at po
        obtain ⟨G, Y, wk, hG, hY⟩ := w
        have lenys := compM_len (fun x a h => compOne_len h) r2
        refine lc_it wk (fun i H' => Same H1 H' ∧ ∃ zs acc, compM (compOne k ft fe (wipeD δ vs)) (xs.take i) = .ok zs ∧ H' Dl = some (.lst acc) ∧ immAll zs = true ∧ RpAll X.K H' zs acc) ?_ (fun i H' _ p => hG H' p.1) (fun i x H2 H3 hi p y => ?_) (fun H' p => ?_)
        · refine ⟨same_new hD, [], [], by rw [List.take_zero]; rfl, upd_same, rfl, .nil⟩
        · obtain ⟨p1, zs, acc, hz2, hacc, imz, racc⟩ := p
          obtain ⟨sm, d, hd, rp⟩ := hY i H2 x H3 hi p1 y
          obtain ⟨one, hone⟩ := compM_each r2 hd
          have hone' := hone
          unfold compOne at hone
          split at hone
          · cases hone
          · rename_i δ2 hk
            have enw : EnvD X.K H3 (wipe σ vs) (wipeD δ vs) := wipeD_env (en.mono (s1.trans (p1.trans sm))) vs
            have base : Same H1 H3 := p1.trans sm
            · refine sg H3 (wipe σ vs) (wipeD δ vs) δ2 d x _ enw rp hk fun σ2 en2 w2 => ⟨by rw [w2, wipe_wipe], ?_⟩
              have fin : ∀ (H5 : Hp) (a : List D) (acc' : List V), Same H3 H5 ∨ (∃ H4, Same H3 H4 ∧ H5 = upd H4 Dl (.lst acc')) → compOne k ft fe (wipeD δ vs) d = .ok a → H5 Dl = some (.lst acc') → immAll (zs ++ a) = true → RpAll X.K H5 (zs ++ a) acc' →
                  Same H1 H5 ∧ ∃ zs acc, compM (compOne k ft fe (wipeD δ vs)) (xs.take (i + 1)) = .ok zs ∧ H5 Dl = some (.lst acc) ∧ immAll zs = true ∧ RpAll X.K H5 zs acc := by
                intro H5 a acc' hs h1 h2 h3 h4
                refine ⟨?_, zs ++ a, acc', ?_, h2, h3, h4⟩
                · rcases hs with hs | ⟨H4, hs, rfl⟩
                  · exact base.trans hs
                  · intro b o e
                    rw [upd_ne (ne_of_none e hD)]
                    exact hs b o (base b o e)
                · rw [take_succ_get hd]
                  refine compM_app hz2 ?_
                  show (compOne k ft fe (wipeD δ vs) d).bind _ = _
                  rw [h1]
                  show Res.ok (a ++ []) = Res.ok a
                  rw [List.append_nil]
              refine st δ2 σ2 H3 _ en2 ?_
              cases q : ft δ2 with
              | exc c => rw [q] at hone; cases hone
              | stuck => rw [q] at hone; cases hone
              | ok b =>
                rw [q, Res.ok_bind] at hone
                intro H4 s4
                cases b with
                | false =>
                  show Same H1 H4 ∧ _
                  have ha : one = [] := by cases hone; rfl
                  subst ha
                  refine fin H4 [] acc (.inl s4) hone' (s4 _ _ (sm _ _ hacc)) (by rw [List.append_nil]; exact imz) ?_
                  rw [List.append_nil]
                  exact RpAll.mono (sm.trans s4) _ _ racc
                | true =>
                  rw [if_pos rfl] at hone
                  show te σ2 H4 _
                  refine se δ2 σ2 H4 _ (en2.mono s4) ?_
                  cases q2 : fe δ2 with
                  | exc c => rw [q2] at hone; cases hone
                  | stuck => rw [q2] at hone; cases hone
                  | ok y =>
                    rw [q2, Res.ok_bind] at hone
                    split at hone
                    · rename_i imy
                      have ha : one = [y] := by cases hone; rfl
                      subst ha
                      intro yv H5 s5 ry
                      have s35 := s4.trans s5
                      have hacc5 : H5 Dl = some (.lst acc) := s35 _ _ (sm _ _ hacc)
                      have lz : zs.length ≤ xs.length := Nat.le_trans (compM_len (fun x a h => compOne_len h) hz2) (by rw [List.length_take]; omega)
                      have la : acc.length < sizeLine := by
                        rw [racc.length]
                        exact big_lt (Nat.le_trans lz hz)
                      refine ⟨acc, hacc5, la, ?_⟩
                      have imall : immAll (zs ++ [y]) = true := by
                        rw [immAll_iff] at imz ⊢
                        intro e he
                        rcases List.mem_append.mp he with he | he
                        · exact imz e he
                        · cases List.mem_singleton.mp he
                          exact imy
                      have box : ∀ a ∈ [Dl], Boxy H5 a := fun a ha => by cases List.mem_singleton.mp ha; exact ⟨_, hacc5, rfl⟩
                      have rall : RpAll X.K H5 (zs ++ [y]) (acc ++ [yv]) := (RpAll.mono (sm.trans s35) _ _ racc).append (.cons ry .nil)
                      have rh := RpAll.hide box _ _ imall rall
                      have eh : hide (upd H5 Dl (.lst (acc ++ [yv]))) [Dl] = hide H5 [Dl] := hide_upd (List.mem_singleton.mpr rfl)
                      rw [← eh] at rh
                      exact fin _ [y] (acc ++ [yv]) (.inr ⟨H5, s35, rfl⟩) hone' upd_same imall (RpAll.mono (hide_same _ _) _ _ rh)
                    · cases hone
        · obtain ⟨p1, zs, acc, hz2, hacc, imz, racc⟩ := p
          rw [List.take_length, r2] at hz2
          cases hz2
          refine po _ H' (s1.trans p1) (rpl hacc racc) (fresh_of (s1.free hD))
    · exact po.elim
end DL
namespace DL
open PySem L2
section
variable {X : Cx} {pins : List (Addr × Obj)} {σ : L2.St} {H : Hp} {s : Shared}
/-- the values that x, a list, a tuple or a text, gives -/
def ItemsV (K : Fg) (H : Hp) (x : V) (xs : List V) : Prop := (∃ a, x = .ref a ∧ SqL K H a xs) ∨ (∃ a, x = .ref a ∧ SqT K H a xs) ∨ ∃ l : List Nat, x = .str (S l) ∧ l.length ≤ big ∧ xs = l.map fun c => V.str (S [c])
theorem signs_vals {l : List Nat} {acc : Array Value} (h : ItemsOf (SignAt (S l)) acc l.length) : Vals (l.map fun c => V.str (S [c])) acc.toList := by
  have key : ∀ (m : List Nat) (vs : List Value), m.length = vs.length → (∀ (j : Nat) (v : Value), vs[j]? = some v → ∃ (c : Nat) (u : Tok), m[j]? = some c ∧ v = .str ⟨#[c]⟩ u) → Vals (m.map fun c => V.str (S [c])) vs := by
    intro m
    induction m with
    | nil =>
      intro vs hl _
      cases vs with
      | nil => exact .nil
      | cons _ _ => cases hl
    | cons c m ih =>
      intro vs hl hv
      cases vs with
      | nil => cases hl
      | cons v vs =>
        obtain ⟨c', u, h1, h2⟩ := hv 0 v rfl
        cases h1
        refine .cons ⟨u, h2⟩ (ih vs (Nat.succ.inj hl) fun j w hj => hv (j + 1) w hj)
  refine key l acc.toList (Eq.trans (Eq.symm h.1) (Array.length_toList).symm) fun j v hj => ?_
  obtain ⟨c, u, h1, h2⟩ := h.2 j v (by rw [← Array.getElem?_toList]; exact hj)
  exact ⟨c, u, by simpa [S] using h1, h2⟩
theorem collectV {x : V} {xs : List V} {v : Value} {Q : List Value → Shared → Prop} {E : Value → Shared → Prop} (hc : X.calm = true) (I : Inv X pins σ H s) (rx : RelV x v) (hi : ItemsV X.K H x xs)
    (hq : ∀ s' its, Inv X pins σ H s' → Vals xs its → Q its s') {A : Around} (hA : A.handled = X.A.handled) : wpAny (model X.prog X.w) A (collect v) Q E s := by
  rcases hi with ⟨a, rfl, hs⟩ | ⟨a, rfl, hs⟩ | ⟨l, rfl, hl, rfl⟩
  · cases rx
    obtain ⟨its, rv, ⟨o, n, ho, hcl, _, hd⟩, hz⟩ := I.list hs
    refine wpAny_collect_seq a (T := "list") (.inl rfl) ho hcl hd (fun h' k => ?_) (by rw [List.size_toArray, ← rv.length]; exact hz)
    have := hq { s with heap := h' } its (I.kept (t' := s.toks) k) rv
    simpa using this
  · cases rx
    obtain ⟨its, rv, ⟨o, ho, hcl, n, hd⟩, hz⟩ := I.tuple hs
    refine wpAny_collect_seq a (T := "tuple") (.inr rfl) ho hcl hd (fun h' k => ?_) (by rw [List.size_toArray, ← rv.length]; exact hz)
    have := hq { s with heap := h' } its (I.kept (t' := s.toks) k) rv
    simpa using this
  · obtain ⟨t, rfl⟩ := rx
    have sz : (S l).cps.size = l.length := by simp [S]
    refine wpAny_collect_str (by rw [hA]; exact I.ok.hd hc) (S l) t (fun s' acc k hg hdr hos hit => ?_) (by rw [sz]; exact big_le hl)
    obtain ⟨h', g', d', t', o'⟩ := s'
    have e1 : o' = s.os := hos
    have e2 : g' = s.gens := hg
    subst e1 e2
    refine hq _ _ ?_ (signs_vals (by rw [sz] at hit; exact hit))
    have I1 : Inv X pins σ H { s with heap := h', toks := t' } := I.kept k
    have e3 : d' = s.drawn := hdr
    subst e3
    exact I1
/-- a key as a datum -/
def keyDD : Key → D
  | .inl i => .int i
  | .inr x => .str x.cps.toList
theorem S_toList (x : Str) : S x.cps.toList = x := by
  cases x
  simp [S]
theorem keyDD_rp {K : Fg} {H : Hp} (k : Key) : Rp K H (keyDD k) (kV k) := by
  cases k with
  | inl i => exact rpi _
  | inr x =>
    show Rp K H (.str x.cps.toList) (.str x)
    unfold Rp
    rw [S_toList]
theorem keysDD_rp {K : Fg} {H : Hp} : ∀ ks : List Key, RpAll K H (ks.map keyDD) (ks.map kV)
  | [] => .nil
  | k :: ks => .cons (keyDD_rp k) (keysDD_rp ks)
theorem isKeys_rp {K : Fg} {H : Hp} {kvs : List (List Key × V)} {bs : List Addr} (h : IsKeys H kvs bs) : RpAll K H (kvs.map fun kv => .tuple (kv.1.map keyDD)) (bs.map V.ref) := by
  unfold IsKeys at h
  induction h with
  | nil => exact .nil
  | cons h1 t ih => exact .cons (rpt h1 (keysDD_rp _)) ih
/-- x, a list, a tuple, a text or a dict, gives the data ds -/
def GivesD (K : Fg) (H : Hp) (x : V) (ds : List D) : Prop := (∃ xs, ItemsV K H x xs ∧ RpAll K H ds xs) ∨ (∃ a kvs, x = .ref a ∧ Rd H a (.dK kvs) ∧ ds = kvs.map fun kv => keyDD kv.1) ∨
  ∃ a kvs, x = .ref a ∧ Rd H a (.dT kvs) ∧ ds = kvs.map fun kv => .tuple (kv.1.map keyDD)
theorem collectG {x : V} {ds : List D} {v : Value} {Q : List Value → Shared → Prop} {E : Value → Shared → Prop} (hc : X.calm = true) (I : Inv X pins σ H s) (rx : RelV x v) (g : GivesD X.K H x ds)
    (hq : ∀ s2 its xs, Inv X pins σ H s2 → RpAll X.K H ds xs → Vals xs its → Q its s2) {A : Around} (hA : A.handled = X.A.handled) : wpAny (model X.prog X.w) A (collect v) Q E s := by
  have hh : A.handled = none := by rw [hA]; exact I.ok.hd hc
  rcases g with ⟨xs, hi, hr⟩ | ⟨a, kvs, rfl, ha, rfl⟩ | ⟨a, kvs, rfl, ha, rfl⟩
  · exact collectV hc I rx hi (fun s2 its I2 rv => hq s2 its xs I2 hr rv) hA
  · cases rx
    obtain ⟨z, lo, vs, rk, hd⟩ := (show ObjOk X.prog X.w H s.heap a (.dK kvs) from ha.ok I.hok)
    obtain ⟨ep, hat⟩ := hd.dictAt
    have hl : kvs.length = vs.length := Paired.length rk
    refine PySem.W.kdu_collect (PySem.W.kdl_dict (knd := mixKind X.prog X.w) (kvs := vs) (ep := ep) lo) hh hat (hl ▸ z) fun h2 tk acc hk hacc => ?_
    refine hq _ _ ((kvs.map (·.1)).map kV) (I.kept hk) (by have := keysDD_rp (K := X.K) (H := H) (kvs.map (·.1)); rw [List.map_map] at this; exact this) ?_
    refine vals_of_at (by rw [List.length_map, List.length_map, Array.length_toList (xs := acc), hacc.1, hl]) fun j y u h3 h4 => ?_
    obtain ⟨k, y2, hky, hi⟩ := hacc.2 j u (by rw [← Array.getElem?_toList]; exact h4)
    rw [List.getElem?_map, KV.keys rk, List.getElem?_map, hky] at h3
    cases h3
    exact keyIs_rel hi
  · cases rx
    obtain ⟨z, lo, ks, pr, o, es, ep, ho, hx, hdt, he, hn⟩ := (show ObjOk X.prog X.w H s.heap a (.dT kvs) from ha.ok I.hok)
    have l1 : es.size = ks.length := size_of_entries he
    have l2 : kvs.length = ks.length := Paired.length pr
    refine PySem.W.kdu_collect (kdl_raw lo hx hdt) hh ho (by omega) fun h2 tk acc hk hacc => ?_
    refine hq _ _ _ (I.kept hk) (isKeys_rp (isKeys_of pr)) ?_
    refine vals_of_at (by rw [List.length_map, List.length_map, Array.length_toList (xs := acc), hacc.1, l1]) fun j y u h3 h4 => ?_
    obtain ⟨en, hen, hv⟩ := hacc.2 j u (by rw [← Array.getElem?_toList]; exact h4)
    have qe := entry_at he j
    rw [hen] at qe
    rw [List.getElem?_map, List.getElem?_map] at h3
    cases hb : ks[j]? with
    | none =>
      rw [hb] at qe
      cases qe
    | some b =>
      rw [hb] at qe h3
      cases h3
      have e2 : en = entryOfKey (tupleKind (mixKind X.prog X.w)) b := Option.some.inj qe
      rw [hv, e2]
      rfl
/-! ### sorted -/
def sortD (ds : List D) : List D := ds.mergeSort fun a b => PySem.W.dataLe false toPy a b
def rSortA (K : Fg) : List V → Hp → VK → Prop := fun vs H Q => ∃ x ds, vs = [x] ∧ GivesD K H x ds ∧ shpAll 9 ds = true ∧ PySem.W.AllAlike (ds.map toPy) ∧ PySem.W.Sortable (ds.map toPy) ∧ ds.length ≤ big ∧
  ∀ p ys, H p = none → RpAll K H (sortD ds) ys → Q (.ref p) (upd H p (.lst ys))
theorem toPyAll_map : ∀ ds : List D, toPyAll ds = ds.map toPy
  | [] => by unfold toPyAll; rfl
  | d :: ds => by unfold toPyAll; rw [toPyAll_map ds]; rfl
theorem shpAll_mem {n : Nat} : ∀ {ds : List D}, shpAll n ds = true → ∀ d ∈ ds, shp n d = true
  | [], _, d, h => by cases h
  | e :: ds, s, d, h => by
    unfold shpAll at s
    rw [Bool.and_eq_true] at s
    rcases List.mem_cons.mp h with rfl | h
    · exact s.1
    · exact shpAll_mem s.2 d h
/-- the data and the values side by side -/
theorem each_pairs (I : Inv X pins σ H s) {n : Nat} : ∀ {ds : List D} {xs : List V} {us : List Value}, shpAll n ds = true → RpAll X.K H ds xs → Vals xs us →
    PySem.W.EachIs (fun u (b : D × V) => RelV b.2 u) us (ds.zip xs) ∧ PySem.W.EachIs (fun u (b : D × V) => ∃ as, Reads s.heap u (toPy b.1) as ∧ s.heap.objs.size ∉ as) us (ds.zip xs)
  | [], _, _, _, r, v => by
    unfold RpAll at r
    subst r
    cases v
    exact ⟨.nil, .nil⟩
  | d :: ds, _, _, sh, r, v => by
    unfold RpAll at r
    obtain ⟨x, t, rfl, r1, r2⟩ := r
    unfold shpAll at sh
    rw [Bool.and_eq_true] at sh
    cases v with
    | cons v1 v2 =>
      obtain ⟨e1, e2⟩ := each_pairs I sh.2 r2 v2
      obtain ⟨as, hr⟩ := Dp.reads I (toPy d) x _ (Rp.dp n d x sh.1 r1) v1
      exact ⟨.cons v1 e1, .cons ⟨as, hr, fun hm => by
        obtain ⟨o, ho⟩ := PyProof.On.reads_mem_get hr _ hm
        exact absurd (Heap.lt_size ho) (Nat.lt_irrefl _)⟩ e2⟩
theorem zip_fst : ∀ {ds : List D} {xs : List V}, xs.length = ds.length → (ds.zip xs).map (·.1) = ds
  | [], _, _ => rfl
  | d :: ds, [], h => by cases h
  | d :: ds, x :: xs, h => by
    show d :: (ds.zip xs).map (·.1) = d :: ds
    rw [zip_fst (Nat.succ.inj h)]
theorem pairs_rp {K : Fg} : ∀ {zs : List (D × V)}, (∀ z ∈ zs, Rp K H z.1 z.2) → RpAll K H (zs.map (·.1)) (zs.map (·.2))
  | [], _ => .nil
  | z :: zs, h => .cons (h z List.mem_cons_self) (pairs_rp fun w hw => h w (List.mem_cons_of_mem _ hw))
theorem rp_pairs {K : Fg} : ∀ {ds : List D} {xs : List V}, RpAll K H ds xs → ∀ z ∈ ds.zip xs, Rp K H z.1 z.2
  | [], _, _, z, hz => by cases hz
  | d :: ds, _, r, z, hz => by
    unfold RpAll at r
    obtain ⟨x, t, rfl, r1, r2⟩ := r
    rcases List.mem_cons.mp hz with rfl | hz
    · exact r1
    · exact rp_pairs r2 z hz
theorem vals_of_each {R : Value → (D × V) → Prop} : ∀ {us : List Value} {zs : List (D × V)}, PySem.W.EachIs (fun u (b : D × V) => RelV b.2 u) us zs → Vals (zs.map (·.2)) us
  | _, _, .nil => .nil
  | _, _, .cons h t => .cons h (vals_of_each (R := R) t)
theorem cr_sortA (hc : X.calm = true) (hu : X.A.units + 64 < cLine) : CallR X (.builtin "sorted") (rSortA X.K) := by
  intro pins s σ H vs us Q I r h
  obtain ⟨x, ds, rfl, hi, hsh, hal, hso, hlen, q⟩ := h
  cases r with
  | cons rx rn =>
    rename_i v us'
    cases rn
    refine PyProof.Rows.call_function_entry_kw PyProof.Rows.kind_sorted PyProof.Rows.plain_sorted PyProof.Rows.entry_sorted (PyProof.Rows.args_sorted1 _) ?_
    show wpAny _ X.A.in1 (Builtin.«sorted» ⟨[v], []⟩) _ _ s
    unfold Builtin.«sorted»
    refine wpAny_bind (m := checkCount "sorted" 1 1 _) (wpAny_pure ?_)
    refine wpAny_bind (collectG hc I rx hi (fun s' its xs I' hr rv => ?_) rfl)
    have hL : its.length ≤ sizeLine := by
      rw [← rv.length, hr.length]
      exact big_le hlen
    refine wpAny_bind (wpAny_newList ?_ hL)
    have hf : H s'.heap.objs.size = none := I'.hok.fresh (Nat.le_refl _)
    obtain ⟨e1, e2⟩ := each_pairs (n := 9) I' hsh hr rv
    have hat : (s'.heap.push (PyProof.Rows.seqObj "list" its.toArray 0)).get? s'.heap.objs.size = some (PyProof.Rows.seqObj "list" its.toArray 0) := Heap.get?_push_size _ rfl
    have lz : (ds.zip xs).length ≤ sizeLine := by
      rw [List.length_zip, hr.length, Nat.min_self]
      exact big_le hlen
    have em : (ds.zip xs).map (fun b => toPy b.1) = ds.map toPy := by
      have : (ds.zip xs).map (fun b => toPy b.1) = ((ds.zip xs).map (·.1)).map toPy := by rw [List.map_map]; rfl
      rw [this, zip_fst hr.length]
    refine wpAny_bind (wpAny_holding (PySem.W.list_sort_data (s := { s' with heap := s'.heap.push (PyProof.Rows.seqObj "list" its.toArray 0) }) (enc := fun b : D × V => toPy b.1) (R := fun u b => RelV b.2 u) hat e1 (e2.mono fun u b ⟨as, h1, h2⟩ => ⟨as, PyProof.Rows.Reads.keeps (fun b o e => Heap.get?_push_of_some _ e) h1, h2⟩) (by rw [em]; exact hal) (by rw [em]; exact hso) lz (fun b hb => ?_) fun out ho hout => ?_))
    · have hb1 : b.1 ∈ ds := by
        have := List.mem_map_of_mem (f := (·.1)) hb
        rw [zip_fst hr.length] at this
        exact this
      have := (shp_lay 9 b.1 (shpAll_mem hsh _ hb1)).2
      show X.A.units + 1 + 1 + (toPy b.1).depth < cLine
      omega
    · refine wpAny_pure ⟨_, rfl, ?_⟩
      have vo := vals_of_each (R := fun _ _ => True) hout
      have es : ((ds.zip xs).mergeSort (PySem.W.dataLe false fun b : D × V => toPy b.1)).map (·.1) = sortD ds := by
        unfold sortD
        have z := List.map_mergeSort (r := PySem.W.dataLe false fun b : D × V => toPy b.1) (s := fun a b => PySem.W.dataLe false toPy a b) (f := fun b : D × V => b.1) (l := ds.zip xs) (fun a _ b _ => rfl)
        rw [z, zip_fst hr.length]
      have rs : RpAll X.K H (sortD ds) (((ds.zip xs).mergeSort (PySem.W.dataLe false fun b : D × V => toPy b.1)).map (·.2)) := by
        rw [← es]
        exact pairs_rp fun z hz => rp_pairs hr z (List.mem_mergeSort.mp hz)
      refine ⟨.ref s'.heap.objs.size, _, I'.laid (t' := s'.toks) (o := .lst _) (fun b o e => ?_) (Nat.le_refl _) ⟨?_, out, (PyProof.Rows.sortedHeap_at (vs := its) (out := out.toArray) hat).choose, vo, ?_⟩, rfl, q _ _ hf rs⟩
      · rw [PyProof.Rows.sortedHeap_old (Nat.ne_of_lt (Heap.lt_size e)) (by rw [Heap.size_push]; exact Nat.lt_succ_of_lt (Heap.lt_size e))]
        exact Heap.get?_push_of_some _ e
      · rw [List.length_map, List.length_mergeSort]
        exact lz
      · exact (PyProof.Rows.sortedHeap_at (vs := its) (out := out.toArray) hat).choose_spec
end
end DL
namespace DL
open PySem L2
/-! ### where a sign first stands -/
theorem occ_find (s sub : Str) (hi : Nat) : ∀ (l : List Nat) (free : Nat), (∀ i ∈ l, free ≤ i) →
    (forIn l ((#[] : Array Nat), free) (StrLaws.occBody s sub hi 1)).run.fst = match l.find? (fun i => decide (i + sub.length ≤ hi) && Builtin.Str.subAt s sub i) with
      | some i => #[i]
      | none => #[]
  | [], free, _ => rfl
  | a :: l, free, hf => by
    rw [List.forIn_cons]
    unfold StrLaws.occBody
    have ha : free ≤ a := hf a (List.mem_cons_self ..)
    by_cases hc : a + sub.length ≤ hi ∧ Builtin.Str.subAt s sub a = true
    · have c1 : (((#[] : Array Nat), free).fst.size < 1 ∧ ((#[] : Array Nat), free).snd ≤ a) ∧ a + sub.length ≤ hi := ⟨⟨by simp, ha⟩, hc.1⟩
      rw [if_pos ⟨c1, hc.2⟩]
      have full : ∀ (m : List Nat) (st : Array Nat × Nat), st.fst.size = 1 → (forIn m st (StrLaws.occBody s sub hi 1)).run.fst = st.fst := by
        intro m
        induction m with
        | nil => intro st _; rfl
        | cons b m ih =>
          intro st h1
          rw [List.forIn_cons]
          unfold StrLaws.occBody
          rw [if_neg (fun h => by have := h.1.1.1; omega)]
          exact ih st h1
      have e1 : (a :: l).find? (fun i => decide (i + sub.length ≤ hi) && Builtin.Str.subAt s sub i) = some a := by
        rw [List.find?_cons_of_pos]
        rw [hc.2, decide_eq_true hc.1]
        rfl
      rw [e1]
      exact full l _ (by simp)
    · have c2 : ¬ (((((#[] : Array Nat), free).fst.size < 1 ∧ ((#[] : Array Nat), free).snd ≤ a) ∧ a + sub.length ≤ hi) ∧ Builtin.Str.subAt s sub a = true) := fun h => hc ⟨h.1.2, h.2⟩
      rw [if_neg c2]
      have e1 : (a :: l).find? (fun i => decide (i + sub.length ≤ hi) && Builtin.Str.subAt s sub i) = l.find? (fun i => decide (i + sub.length ≤ hi) && Builtin.Str.subAt s sub i) := by
        rw [List.find?_cons_of_neg]
        intro h
        rw [Bool.and_eq_true] at h
        exact hc ⟨of_decide_eq_true h.1, h.2⟩
      rw [e1]
      exact occ_find s sub hi l free (fun i hi' => hf i (List.mem_cons_of_mem _ hi'))
theorem occ_sign {l : List Nat} {c : Nat} (h : c ∈ l) : Builtin.Str.occurrences (S l) (S [c]) 0 (S l).length 1 = [l.idxOf c] := by
  rw [StrLaws.occ_eq, occ_find _ _ _ _ _ (fun _ _ => Nat.zero_le _)]
  have hlt : l.idxOf c < l.length := List.idxOf_lt_length_iff.mpr h
  have hget : l[l.idxOf c]? = some c := by
    rw [List.getElem?_eq_getElem hlt]
    simp
  have sub : ∀ i, (decide (i + (S [c]).length ≤ (S l).length) && Builtin.Str.subAt (S l) (S [c]) i) = true ↔ l[i]? = some c := by
    intro i
    have := StrLaws.subAt_one (S l) c i
    rw [S_list] at this
    rw [Bool.and_eq_true, decide_eq_true_iff]
    exact this
  have ef : (List.range' 0 ((S l).length + 1 - 0)).find? (fun i => decide (i + (S [c]).length ≤ (S l).length) && Builtin.Str.subAt (S l) (S [c]) i) = some (l.idxOf c) := by
    rw [List.find?_eq_some_iff_append]
    refine ⟨(sub _).mpr hget, List.range' 0 (l.idxOf c), List.range' (l.idxOf c + 1) (l.length - l.idxOf c), ?_, fun a ha => ?_⟩
    · rw [S_len]
      have e1 : List.range' 0 (l.length + 1 - 0) = List.range' 0 (l.idxOf c) ++ List.range' (l.idxOf c) (l.length + 1 - l.idxOf c) := by
        have e0 : l.length + 1 - 0 = l.idxOf c + (l.length + 1 - l.idxOf c) := by omega
        have e2 := List.range'_append_1 (s := 0) (m := l.idxOf c) (n := l.length + 1 - l.idxOf c)
        rw [Nat.zero_add] at e2
        rw [e0, ← e2]
      rw [e1]
      congr 1
      have : l.length + 1 - l.idxOf c = (l.length - l.idxOf c) + 1 := by omega
      rw [this, List.range'_succ]
    · rw [Bool.not_eq_true']
      have hlt' : a < l.idxOf c := by
        have := List.mem_range'_1.mp ha
        omega
      cases hb : (decide (a + (S [c]).length ≤ (S l).length) && Builtin.Str.subAt (S l) (S [c]) a) with
      | false => rfl
      | true =>
        exfalso
        have g := (sub a).mp hb
        obtain ⟨h1, h2⟩ := List.getElem?_eq_some_iff.mp g
        have := List.not_of_lt_findIdx (p := (· == c)) (xs := l) (i := a) hlt'
        rw [h2] at this
        simp at this
  rw [ef]
section
variable {X : Cx} {cl : Nat → Addr} {W : WX} {K : Fg}
theorem RpAll.one {H : Hp} {d : D} {vs : List V} (h : RpAll K H [d] vs) : ∃ v, vs = [v] ∧ Rp K H d v := by
  unfold RpAll at h
  obtain ⟨v, r, rfl, h1, h2⟩ := h
  unfold RpAll at h2
  subst h2
  exact ⟨v, rfl, h1⟩
theorem RpAll.two {H : Hp} {d e : D} {vs : List V} (h : RpAll K H [d, e] vs) : ∃ v w, vs = [v, w] ∧ Rp K H d v ∧ Rp K H e w := by
  unfold RpAll at h
  obtain ⟨v, r, rfl, h1, h2⟩ := h
  obtain ⟨w, rfl, h3⟩ := h2.one
  exact ⟨v, w, rfl, h1, h3⟩
/-! ### len -/
def cLen : List D → Res D
  | [.str l] => Res.need (l.length ≤ big) (.ok (.int l.length))
  | [.list l] => .ok (.int l.length)
  | [.tuple l] => .ok (.int l.length)
  | [.scr l] => .ok (.int l.length)
  | _ => .stuck
theorem cLen_ne : noExcC cLen := fun ds => by
  unfold cLen
  split
  · exact need_noExc ok_noExc
  · exact ok_noExc
  · exact ok_noExc
  · exact ok_noExc
  · exact stuck_noExc
theorem sim_len : SimC K cl (fun xs H Q => ∃ x n, xs = [x] ∧ LenV K x H n ∧ Q (.int n) H) cLen := by
  intro vs ds σ H Q r po
  unfold cLen at po
  split at po
  · obtain ⟨hc, po⟩ := need_on po
    obtain ⟨v, rfl, h⟩ := r.one
    obtain rfl := rp_str h
    exact ⟨_, _, rfl, ⟨by rw [S_len]; exact big_le hc, rfl⟩, by rw [S_len]; exact po _ H (Same.refl H) (rpi _) (fresh_no rfl)⟩
  · obtain ⟨v, rfl, h⟩ := r.one
    obtain ⟨a, xs, rfl, ha, hx⟩ := rp_list h
    exact ⟨_, _, rfl, .inl ⟨xs, Or.inl (Or.inl ha), rfl⟩, by rw [hx.length]; exact po _ H (Same.refl H) (rpi _) (fresh_no rfl)⟩
  · obtain ⟨v, rfl, h⟩ := r.one
    obtain ⟨a, xs, rfl, ha, hx⟩ := rp_tup h
    exact ⟨_, _, rfl, .inr ⟨xs, ha, rfl⟩, by rw [hx.length]; exact po _ H (Same.refl H) (rpi _) (fresh_no rfl)⟩
  · obtain ⟨v, rfl, h⟩ := r.one
    unfold Rp at h
    obtain ⟨a, rfl, ha⟩ := h
    exact ⟨_, _, rfl, .inl ⟨_, ha, rfl⟩, by rw [List.length_map]; exact po _ H (Same.refl H) (rpi _) (fresh_no rfl)⟩
  · exact po.elim
variable {e : Expr} {es : List Expr} {pos p : Pos} {tr : TA} {gs : Dv → Res (List D)}
theorem q_len (hm : X.mg "len" = none) (ha : QA X cl W (e :: es) tr gs) (hg : Gl X "len" := by rfl) (he : starEach (e :: es) X.env = (false, eval e X.env) :: starEach es X.env := by rfl) (hpl : (backTo pos (starEach es X.env)).any (·.1) = false := by rfl) :
    QF X cl W (.Call (.Name "len" p) (e :: es) [] pos) (tCB (fun xs H Q => ∃ x n, xs = [x] ∧ LenV X.K x H n ∧ Q (.int n) H) tr) (fun δ => (gs δ).bind cLen) := q_callB call_len sim_len cLen_ne hg hm PySem.boot_len ha (by decide) (by decide) he hpl
/-! ### min, max of two ints; of a list of ints -/
def cMin : List D → Res D
  | [.int i, .int j] => .ok (.int (if j < i then j else i))
  | _ => .stuck
def cMax : List D → Res D
  | [.int i, .int j] => .ok (.int (if j > i then j else i))
  | _ => .stuck
theorem cMin_ne : noExcC cMin := fun ds => by
  unfold cMin
  split
  · exact ok_noExc
  · exact stuck_noExc
theorem cMax_ne : noExcC cMax := fun ds => by
  unfold cMax
  split
  · exact ok_noExc
  · exact stuck_noExc
theorem sim_min : SimC K cl (fun xs H Q => ∃ i j, xs = [.int i, .int j] ∧ Q (.int (if j < i then j else i)) H) cMin := by
  intro vs ds σ H Q r po
  unfold cMin at po
  split at po
  · obtain ⟨v, w, rfl, h1, h2⟩ := r.two
    obtain rfl := rp_int h1; obtain rfl := rp_int h2
    exact ⟨_, _, rfl, po _ H (Same.refl H) (rpi _) (fresh_no rfl)⟩
  · exact po.elim
theorem sim_max : SimC K cl (fun xs H Q => ∃ i j, xs = [.int i, .int j] ∧ Q (.int (if j > i then j else i)) H) cMax := by
  intro vs ds σ H Q r po
  unfold cMax at po
  split at po
  · obtain ⟨v, w, rfl, h1, h2⟩ := r.two
    obtain rfl := rp_int h1; obtain rfl := rp_int h2
    exact ⟨_, _, rfl, po _ H (Same.refl H) (rpi _) (fresh_no rfl)⟩
  · exact po.elim
theorem q_min2 (hc : X.calm = true) (hm : X.mg "min" = none) (ha : QA X cl W (e :: es) tr gs) (hg : Gl X "min" := by rfl) (he : starEach (e :: es) X.env = (false, eval e X.env) :: starEach es X.env := by rfl) (hpl : (backTo pos (starEach es X.env)).any (·.1) = false := by rfl) :
    QF X cl W (.Call (.Name "min" p) (e :: es) [] pos) (tCB (fun xs H Q => ∃ i j, xs = [.int i, .int j] ∧ Q (.int (if j < i then j else i)) H) tr) (fun δ => (gs δ).bind cMin) := q_callB (call_min2 hc) sim_min cMin_ne hg hm (by decide +kernel) ha (by decide) (by decide) he hpl
theorem q_max2 (hc : X.calm = true) (hm : X.mg "max" = none) (ha : QA X cl W (e :: es) tr gs) (hg : Gl X "max" := by rfl) (he : starEach (e :: es) X.env = (false, eval e X.env) :: starEach es X.env := by rfl) (hpl : (backTo pos (starEach es X.env)).any (·.1) = false := by rfl) :
    QF X cl W (.Call (.Name "max" p) (e :: es) [] pos) (tCB (fun xs H Q => ∃ i j, xs = [.int i, .int j] ∧ Q (.int (if j > i then j else i)) H) tr) (fun δ => (gs δ).bind cMax) := q_callB (call_max2 hc) sim_max cMax_ne hg hm (by decide +kernel) ha (by decide) (by decide) he hpl
/-! ### int -/
def cInt : List D → Res D
  | [.int i] => .ok (.int i)
  | [.bool b] => .ok (.int (if b then 1 else 0))
  | _ => .stuck
theorem cInt_ne : noExcC cInt := fun ds => by
  unfold cInt
  split
  · exact ok_noExc
  · exact ok_noExc
  · exact stuck_noExc
theorem sim_int : SimC K cl (fun xs H Q => (∃ i, xs = [.int i] ∧ Q (.int i) H) ∨ ∃ k, xs = [.bl k] ∧ Q (.int (if k then 1 else 0)) H) cInt := by
  intro vs ds σ H Q r po
  unfold cInt at po
  split at po
  · obtain ⟨v, rfl, h1⟩ := r.one
    obtain rfl := rp_int h1
    exact .inl ⟨_, rfl, po _ H (Same.refl H) (rpi _) (fresh_no rfl)⟩
  · obtain ⟨v, rfl, h1⟩ := r.one
    obtain rfl := rp_bl h1
    exact .inr ⟨_, rfl, po _ H (Same.refl H) (rpi _) (fresh_no rfl)⟩
  · exact po.elim
theorem q_int1 (hm : X.mg "int" = none) (ha : QA X cl W (e :: es) tr gs) (hg : Gl X "int" := by rfl) (he : starEach (e :: es) X.env = (false, eval e X.env) :: starEach es X.env := by rfl) (hpl : (backTo pos (starEach es X.env)).any (·.1) = false := by rfl) :
    QF X cl W (.Call (.Name "int" p) (e :: es) [] pos) (tCB (fun xs H Q => (∃ i, xs = [.int i] ∧ Q (.int i) H) ∨ ∃ k, xs = [.bl k] ∧ Q (.int (if k then 1 else 0)) H) tr) (fun δ => (gs δ).bind cInt) := q_callTy call_int1 sim_int cInt_ne hg hm PyProof.Rows.boot_int ha (by decide) (by decide) he hpl
/-! ### any, all of a list of truths -/
def bools : List D → Option (List Bool)
  | [] => some []
  | .bool b :: r => (bools r).map (b :: ·)
  | _ => none
theorem bools_rp {H : Hp} : ∀ {l : List D} {bs : List Bool} {xs : List V}, bools l = some bs → RpAll K H l xs → xs = bs.map V.bl
  | [], bs, xs, h, r => by
    unfold bools at h
    unfold RpAll at r
    cases h
    exact r
  | d :: l, bs, xs, h, r => by
    unfold RpAll at r
    obtain ⟨v, t, rfl, h1, h2⟩ := r
    cases d with
    | bool b =>
      unfold bools at h
      cases e : bools l with
      | none => rw [e] at h; cases h
      | some cs =>
        rw [e] at h
        cases h
        obtain rfl := rp_bl h1
        rw [bools_rp e h2]
        rfl
    | _ => cases h
def cAny : List D → Res D
  | [.list l] => match bools l with
    | some bs => .ok (.bool (bs.any id))
    | none => .stuck
  | _ => .stuck
def cAll : List D → Res D
  | [.list l] => match bools l with
    | some bs => .ok (.bool (bs.all id))
    | none => .stuck
  | _ => .stuck
theorem cAny_ne : noExcC cAny := fun ds => by
  unfold cAny
  split
  · split
    · exact ok_noExc
    · exact stuck_noExc
  · exact stuck_noExc
theorem cAll_ne : noExcC cAll := fun ds => by
  unfold cAll
  split
  · split
    · exact ok_noExc
    · exact stuck_noExc
  · exact stuck_noExc
theorem sim_any : SimC K cl (rAny K) cAny := by
  intro vs ds σ H Q r po
  unfold cAny at po
  split at po
  · split at po
    · rename_i bs hb
      obtain ⟨v, rfl, h1⟩ := r.one
      obtain ⟨a, xs, rfl, ha, hx⟩ := rp_list h1
      rw [bools_rp hb hx] at ha
      exact ⟨a, bs, rfl, Or.inl (Or.inl ha), po _ H (Same.refl H) (rpb _) (fresh_no rfl)⟩
    · exact po.elim
  · exact po.elim
theorem sim_all : SimC K cl (rAll K) cAll := by
  intro vs ds σ H Q r po
  unfold cAll at po
  split at po
  · split at po
    · rename_i bs hb
      obtain ⟨v, rfl, h1⟩ := r.one
      obtain ⟨a, xs, rfl, ha, hx⟩ := rp_list h1
      rw [bools_rp hb hx] at ha
      exact ⟨a, bs, rfl, Or.inl (Or.inl ha), po _ H (Same.refl H) (rpb _) (fresh_no rfl)⟩
    · exact po.elim
  · exact po.elim
theorem q_any (hc : X.calm = true) (hm : X.mg "any" = none) (ha : QA X cl W (e :: es) tr gs) (hg : Gl X "any" := by rfl) (he : starEach (e :: es) X.env = (false, eval e X.env) :: starEach es X.env := by rfl) (hpl : (backTo pos (starEach es X.env)).any (·.1) = false := by rfl) :
    QF X cl W (.Call (.Name "any" p) (e :: es) [] pos) (tCB (rAny X.K) tr) (fun δ => (gs δ).bind cAny) := q_callB (cr_any hc) sim_any cAny_ne hg hm (by decide +kernel) ha (by decide) (by decide) he hpl
theorem q_all (hc : X.calm = true) (hm : X.mg "all" = none) (ha : QA X cl W (e :: es) tr gs) (hg : Gl X "all" := by rfl) (he : starEach (e :: es) X.env = (false, eval e X.env) :: starEach es X.env := by rfl) (hpl : (backTo pos (starEach es X.env)).any (·.1) = false := by rfl) :
    QF X cl W (.Call (.Name "all" p) (e :: es) [] pos) (tCB (rAll X.K) tr) (fun δ => (gs δ).bind cAll) := q_callB (cr_all hc) sim_all cAll_ne hg hm (by decide +kernel) ha (by decide) (by decide) he hpl
/-! ### sorted -/
theorem items_V {H : Hp} {d : D} {ds : List D} {v : V} (h : items d = .ok ds) (hs : ∀ l, d = .str l → l.length ≤ big) (r : Rp K H d v) : ∃ xs, ItemsV K H v xs ∧ RpAll K H ds xs := by
  cases d with
  | list l =>
    cases h
    obtain ⟨a, xs, rfl, ha, hx⟩ := rp_list r
    exact ⟨xs, .inl ⟨a, rfl, Or.inl (Or.inl ha)⟩, hx⟩
  | tuple l =>
    cases h
    obtain ⟨a, xs, rfl, ha, hx⟩ := rp_tup r
    exact ⟨xs, .inr (.inl ⟨a, rfl, ha⟩), hx⟩
  | str l =>
    cases h
    obtain rfl := rp_str r
    refine ⟨_, .inr (.inr ⟨l, rfl, hs l rfl, rfl⟩), ?_⟩
    clear hs r
    induction l with
    | nil => exact .nil
    | cons c l ih => exact .cons (rps _) ih
  | _ => cases h
def alk (ds : List D) : Bool := ds.all fun a => ds.all fun b => PySem.W.alike (toPy a) (toPy b)
def srt (ds : List D) : Bool := (ds.all fun d => match d with
    | .tuple (_ :: _) => true
    | _ => false) || ds.all fun d => match d with
    | .bool _ | .int _ | .str _ => true
    | _ => false
theorem alk_ok {ds : List D} (h : alk ds = true) : PySem.W.AllAlike (ds.map toPy) := fun a ha b hb => by
  obtain ⟨x, hx, rfl⟩ := List.mem_map.mp ha
  obtain ⟨y, hy, rfl⟩ := List.mem_map.mp hb
  unfold alk at h
  exact List.all_eq_true.mp (List.all_eq_true.mp h x hx) y hy
theorem srt_ok {ds : List D} (h : srt ds = true) : PySem.W.Sortable (ds.map toPy) := by
  unfold srt at h
  rw [Bool.or_eq_true] at h
  rcases h with h | h
  · refine .inl fun d hd => ?_
    obtain ⟨x, hx, rfl⟩ := List.mem_map.mp hd
    have := List.all_eq_true.mp h x hx
    split at this
    · unfold toPy toPyAll
      exact ⟨_, _, rfl⟩
    · cases this
  · refine .inr fun d hd => ?_
    obtain ⟨x, hx, rfl⟩ := List.mem_map.mp hd
    have := List.all_eq_true.mp h x hx
    split at this
    · unfold toPy; exact ⟨fun z => by (cases z), fun _ z => by (cases z)⟩
    · unfold toPy; exact ⟨fun z => by (cases z), fun _ z => by (cases z)⟩
    · unfold toPy; exact ⟨fun z => by (cases z), fun _ z => by (cases z)⟩
    · cases this
def shortS : D → Bool
  | .str l => decide (l.length ≤ big)
  | _ => true
def itemsS : D → Res (List D)
  | .dicK ks _ => .ok (ks.map keyDD)
  | .dicT ks _ => .ok (ks.map fun k => .tuple (k.map keyDD))
  | d => items d
theorem itemsS_or (d : D) : (∃ ks vs, d = .dicK ks vs) ∨ (∃ ks vs, d = .dicT ks vs) ∨ itemsS d = items d := by
  cases d with
  | dicK ks vs => exact .inl ⟨_, _, rfl⟩
  | dicT ks vs => exact .inr (.inl ⟨_, _, rfl⟩)
  | _ => exact .inr (.inr rfl)
theorem itemsS_ne (d : D) (c : Nat) : itemsS d ≠ .exc c := by
  rcases itemsS_or d with ⟨ks, vs, rfl⟩ | ⟨ks, vs, rfl⟩ | e
  · intro z; cases z
  · intro z; cases z
  · rw [e]; exact items_ne d c
theorem gives_of {H : Hp} {d : D} {ds : List D} {v : V} (h : itemsS d = .ok ds) (hs : shortS d = true) (r : Rp K H d v) : GivesD K H v ds := by
  rcases itemsS_or d with ⟨ks, vs, rfl⟩ | ⟨ks, vs, rfl⟩ | e
  · cases h
    unfold Rp at r
    obtain ⟨a, kvs, rfl, ha, rfl, rv⟩ := r
    exact .inr (.inl ⟨a, kvs, rfl, ha, by rw [List.map_map]; rfl⟩)
  · cases h
    unfold Rp at r
    obtain ⟨a, kvs, rfl, ha, rfl, rv⟩ := r
    exact .inr (.inr ⟨a, kvs, rfl, ha, by rw [List.map_map]; rfl⟩)
  · rw [e] at h
    obtain ⟨xs, h1, h2⟩ := items_V h (fun l z => by subst z; exact of_decide_eq_true hs) r
    exact .inl ⟨xs, h1, h2⟩
def cSorted : List D → Res D
  | [d] => (itemsS d).bind fun ds => Res.need (shortS d = true ∧ shpAll 9 ds = true ∧ alk ds = true ∧ srt ds = true ∧ ds.length ≤ big) (.ok (.list (sortD ds)))
  | _ => .stuck
theorem cSorted_ne : noExcC cSorted := fun ds => by
  unfold cSorted
  split
  · rename_i d
    cases h : itemsS d with
    | ok l => exact need_noExc ok_noExc
    | exc c => exact (itemsS_ne d c h).elim
    | stuck => exact stuck_noExc
  · exact stuck_noExc
theorem sim_sorted : SimC K cl (rSortA K) cSorted := by
  intro vs ds σ H Q r po
  unfold cSorted at po
  split at po
  · rename_i d
    obtain ⟨v, rfl, h1⟩ := r.one
    cases h : itemsS d with
    | exc c => exact (itemsS_ne d c h).elim
    | stuck => rw [h] at po; exact po.elim
    | ok l =>
      rw [h, Res.ok_bind] at po
      obtain ⟨⟨c0, c1, c2, c3, c4⟩, po⟩ := need_on po
      refine ⟨v, l, rfl, gives_of h c0 h1, c1, alk_ok c2, srt_ok c3, c4, fun p ys hp hy => ?_⟩
      have s := same_new (o := .lst ys) hp
      exact po _ _ s (rpl upd_same (RpAll.mono s _ _ hy)) (fresh_of hp)
  · exact po.elim
theorem q_sorted (hc : X.calm = true) (hu : X.A.units + 64 < cLine) (hm : X.mg "sorted" = none) (ha : QA X cl W (e :: es) tr gs) (hg : Gl X "sorted" := by rfl) (he : starEach (e :: es) X.env = (false, eval e X.env) :: starEach es X.env := by rfl) (hpl : (backTo pos (starEach es X.env)).any (·.1) = false := by rfl) :
    QF X cl W (.Call (.Name "sorted" p) (e :: es) [] pos) (tCB (rSortA X.K) tr) (fun δ => (gs δ).bind cSorted) := q_callB (cr_sortA hc hu) sim_sorted cSorted_ne hg hm PyProof.Rows.boot_sorted ha (by decide) (by decide) he hpl
/-! ### list, tuple -/
def rListA (K : Fg) : List V → Hp → VK → Prop := fun vs H Q => ∃ x xs, vs = [x] ∧ ItemsV K H x xs ∧ ∀ p, H p = none → Q (.ref p) (upd H p (.lst xs))
theorem cr_listA (hc : X.calm = true) : CallR X (.type "list") (rListA X.K) := by
  intro pins s σ H vs us Q I r h
  obtain ⟨x, xs, rfl, hi, q⟩ := h
  rcases hi with ⟨a, rfl, hs⟩ | ⟨a, rfl, hs⟩ | ⟨l, rfl, hl, rfl⟩
  · exact call_list_of pins s σ H _ us Q I r ⟨a, xs, rfl, .inl hs, q⟩
  · exact call_list_of pins s σ H _ us Q I r ⟨a, xs, rfl, .inr hs, q⟩
  · cases r with
    | cons rx rn =>
      cases rn
      obtain ⟨t, rfl⟩ := rx
      have sz : (S l).cps.size = l.length := by simp [S]
      refine call_list_str (I.ok.hd hc) (S l) t (fun h' tk acc c k hat hit => ?_) (by rw [sz]; exact big_le hl)
      have vo := signs_vals (by rw [sz] at hit; exact hit)
      refine ⟨.ref s.heap.objs.size, _, I.laid (t' := tk) (o := .lst _) k (Nat.le_refl _) ⟨?_, acc.toList, c, vo, ?_⟩, rfl, q _ (I.hok.fresh (Nat.le_refl _))⟩
      · rw [List.length_map]; exact big_le hl
      · rw [hat]
def cList : List D → Res D
  | [d] => (items d).bind fun ds => Res.need (shortS d = true) (.ok (.list ds))
  | _ => .stuck
theorem cList_ne : noExcC cList := fun ds => by
  unfold cList
  split
  · rename_i d
    cases h : items d with
    | ok l => exact need_noExc ok_noExc
    | exc c => exact (items_ne d c h).elim
    | stuck => exact stuck_noExc
  · exact stuck_noExc
theorem sim_list : SimC K cl (rListA K) cList := by
  intro vs ds σ H Q r po
  unfold cList at po
  split at po
  · rename_i d
    obtain ⟨v, rfl, h1⟩ := r.one
    cases h : items d with
    | exc c => exact (items_ne d c h).elim
    | stuck => rw [h] at po; exact po.elim
    | ok l =>
      rw [h, Res.ok_bind] at po
      obtain ⟨c0, po⟩ := need_on po
      obtain ⟨xs, hi, hx⟩ := items_V h (fun l e => by subst e; exact of_decide_eq_true c0) h1
      refine ⟨v, xs, rfl, hi, fun p hp => ?_⟩
      have s := same_new (o := .lst xs) hp
      exact po _ _ s (rpl upd_same (RpAll.mono s _ _ hx)) (fresh_of hp)
  · exact po.elim
theorem q_list (hc : X.calm = true) (hm : X.mg "list" = none) (ha : QA X cl W (e :: es) tr gs) (hg : Gl X "list" := by rfl) (he : starEach (e :: es) X.env = (false, eval e X.env) :: starEach es X.env := by rfl) (hpl : (backTo pos (starEach es X.env)).any (·.1) = false := by rfl) :
    QF X cl W (.Call (.Name "list" p) (e :: es) [] pos) (tCB (rListA X.K) tr) (fun δ => (gs δ).bind cList) := q_callTy (cr_listA hc) sim_list cList_ne hg hm PyProof.Rows.boot_list ha (by decide) (by decide) he hpl
def cTuple : List D → Res D
  | [.list l] => .ok (.tuple l)
  | [.tuple l] => .ok (.tuple l)
  | _ => .stuck
theorem cTuple_ne : noExcC cTuple := fun ds => by
  unfold cTuple
  split
  · exact ok_noExc
  · exact ok_noExc
  · exact stuck_noExc
def rTupA (K : Fg) : List V → Hp → VK → Prop := fun xs H Q => ∃ p ys, xs = [.ref p] ∧ ((SqL K H p ys ∧ ∀ l, H l = none → Q (.ref l) (upd H l (.tup ys))) ∨ (SqT K H p ys ∧ Q (.ref p) H))
theorem sim_tuple : SimC K cl (rTupA K) cTuple := by
  intro vs ds σ H Q r po
  unfold cTuple at po
  split at po
  · obtain ⟨v, rfl, h1⟩ := r.one
    obtain ⟨a, xs, rfl, ha, hx⟩ := rp_list h1
    refine ⟨a, xs, rfl, .inl ⟨Or.inl (Or.inl ha), fun p hp => ?_⟩⟩
    have s := same_new (o := .tup xs) hp
    exact po _ _ s (rpt upd_same (RpAll.mono s _ _ hx)) (fresh_no rfl)
  · obtain ⟨v, rfl, h1⟩ := r.one
    obtain ⟨a, xs, rfl, ha, hx⟩ := rp_tupH h1
    exact ⟨a, xs, rfl, .inr ⟨tq ha, po _ H (Same.refl H) (rpt ha hx) (fresh_no rfl)⟩⟩
  · exact po.elim
theorem q_tuple (hm : X.mg "tuple" = none) (ha : QA X cl W (e :: es) tr gs) (hg : Gl X "tuple" := by rfl) (he : starEach (e :: es) X.env = (false, eval e X.env) :: starEach es X.env := by rfl) (hpl : (backTo pos (starEach es X.env)).any (·.1) = false := by rfl) :
    QF X cl W (.Call (.Name "tuple" p) (e :: es) [] pos) (tCB (rTupA X.K) tr) (fun δ => (gs δ).bind cTuple) := q_callTy call_tuple_of sim_tuple cTuple_ne hg hm PyProof.Rows.boot_tuple ha (by decide) (by decide) he hpl
/-! ### s.index(c) -/
variable {o a : Expr} {to ta : TE} {f h : Dv → Res D} {apos : Pos}
def asS (d : D) : Res (List Nat) := match d with
  | .str l => .ok l
  | _ => .stuck
def dM (g : List Nat → D → Res D) (f h : Dv → Res D) : Dv → Res D := fun δ => (f δ).bind fun a => (asS a).bind fun l => (h δ).bind fun b => g l b
def SimM (K : Fg) (cl : Nat → Addr) (r : V → List V → Hp → VK → Prop) (g : List Nat → D → Res D) : Prop := ∀ (y : V) (l : List Nat) (b : D) (σ : L2.St) (H : Hp) (Q : VK), Rp K H b y → PostF K cl (fun _ _ _ _ => False) σ H (g l b) Q → r (.str (S l)) [y] H Q
theorem tM1_sim {r : V → List V → Hp → VK → Prop} {g : List Nat → D → Res D} (so : SimE X.K cl W to f) (sa : SimE X.K cl W ta h) (sr : SimM X.K cl r g) (ne : ∀ a b, noExc (g a b)) : SimF X.K cl W (tM1 r to ta) (dM g f h) := by
  intro δ σ H Q en po
  show to σ H _
  refine so.chain (P := fun H r => PostF X.K cl W σ H r Q) en po (fun c h => h) (fun H h => h) fun d v H1 _ s1 r1 p1 => ?_
  cases d with
  | str l =>
    obtain rfl := rp_str r1
    refine ⟨⟨_, rfl⟩, ?_⟩
    show ta σ H1 _
    refine sa.chain (P := fun H r => PostF X.K cl W σ H r Q) (en.mono s1) (PostF.weak s1 p1) (fun c h => h) (fun H h => h) fun b y H2 _ s2 r2 p2 => ?_
    have p3 := p2.weak s2
    refine sr _ _ _ σ H2 Q r2 ?_
    cases q : g l b with
    | ok d => rw [q] at p3; exact p3
    | exc c => exact (ne _ b c q).elim
    | stuck => rw [q] at p3; exact p3
  | _ => exact p1.elim
def mIndex (l : List Nat) (d : D) : Res D := match d with
  | .str [c] => Res.need (c ∈ l) (.ok (.int (l.idxOf c : Nat)))
  | _ => .stuck
theorem mIndex_ne (l : List Nat) (d : D) : noExc (mIndex l d) := by
  unfold mIndex
  split
  · exact need_noExc ok_noExc
  · exact stuck_noExc
theorem sim_index : SimM K cl (fun x xs H Q => ∃ a b i rest, x = .str a ∧ xs = [.str b] ∧ Builtin.Str.occurrences a b 0 a.length 1 = i :: rest ∧ Q (.int (i : Nat)) H) mIndex := by
  intro y l b σ H Q rb po
  unfold mIndex at po
  split at po
  · obtain ⟨hc, po⟩ := need_on po
    obtain rfl := rp_str rb
    exact ⟨_, _, _, _, rfl, rfl, occ_sign hc, po _ H (Same.refl H) (rpi _) (fresh_no rfl)⟩
  · exact po.elim
theorem q_index (ho : QE X cl W o to f) (ha : QE X cl W a ta h) (hs : starEach [a] X.env = [(false, eval a X.env)] := by rfl) (hbase : attributeBase o "index" X.env (eval o X.env) = eval o X.env := by rfl) (hline : (apos.endLine == pos.line) = true := by rfl) :
    QF X cl W (.Call (.Attribute o "index" apos) [a] [] pos) (tM1 (fun x xs H Q => ∃ a b i rest, x = .str a ∧ xs = [.str b] ∧ Builtin.Str.occurrences a b 0 a.length 1 = i :: rest ∧ Q (.int (i : Nat)) H) to ta) (dM mIndex f h) :=
  ⟨pe_m1 PySem.F.slot_str_index PySem.F.type_str_index mt_sindex ho.pe ha.pe hs hbase hline, tM1_sim ho.sim ha.sim sim_index mIndex_ne⟩
/-! ### slices -/
def SimO (K : Fg) (cl : Nat → Addr) (W : WX) (to : TO) (f : Dv → Res (Option Int)) : Prop := ∀ (δ : Dv) (σ : L2.St) (H : Hp) (Q : Option Int → Hp → Prop), EnvD K H σ δ →
  (f δ).on (fun o => ∀ H', Same H H' → Q o H') (fun c => ∀ H', Same H H' → W (.ref (cl c)) none σ H') → to σ H Q
structure QO (X : Cx) (cl : Nat → Addr) (W : WX) (e : Option Expr) (to : TO) (f : Dv → Res (Option Int)) : Prop where
  po : PO X e to
  sim : SimO X.K cl W to f
def dNoP : Dv → Res (Option Int) := fun _ => .ok none
def asI (d : D) : Res Int := match d with
  | .int i => .ok i
  | _ => .stuck
def dPt (f : Dv → Res D) : Dv → Res (Option Int) := fun δ => (f δ).bind fun d => (asI d).bind fun i => .ok (some i)
theorem o_none : QO X cl W none tNoPart dNoP := ⟨po_none, fun δ σ H Q en po => po H (Same.refl H)⟩
theorem o_some (ha : QE X cl W a ta f) : QO X cl W (some a) (tPart ta) (dPt f) := by
  refine ⟨po_some ha.pe, fun δ σ H Q en po => ?_⟩
  show ta σ H _
  refine ha.sim.chain (P := fun H (r : Res (Option Int)) => r.on (fun o => ∀ H', Same H H' → Q o H') (fun c => ∀ H', Same H H' → W (.ref (cl c)) none σ H')) en po (fun c h => h) (fun H h => h) fun d v H1 _ s1 r1 p1 => ?_
  cases d with
  | int i =>
    obtain rfl := rp_int r1
    exact ⟨i, rfl, p1 H1 s1⟩
  | _ => exact p1.elim
def cutL {α : Type} (l : List α) (lo hi : Option Int) : List α := (l.drop (HT.sIx l.length 0 lo)).take (HT.sIx l.length l.length hi - HT.sIx l.length 0 lo)
def oSl (d : D) (lo hi : Option Int) : Res D := match d with
  | .str l => Res.need (l.length ≤ big) (.ok (.str (cutL l lo hi)))
  | .tuple l => .ok (.tuple (cutL l lo hi))
  | .list l => .ok (.list (cutL l lo hi))
  | _ => .stuck
theorem oSl_ne (d : D) (lo hi : Option Int) : noExc (oSl d lo hi) := by
  unfold oSl
  split
  · exact need_noExc ok_noExc
  · exact ok_noExc
  · exact ok_noExc
  · exact stuck_noExc
theorem RpAll.cut {H : Hp} {l : List D} {xs : List V} (h : RpAll K H l xs) (lo hi : Option Int) : RpAll K H (cutL l lo hi) (cutV xs lo hi) := by
  unfold cutL cutV
  rw [h.length]
  exact (h.drop _).take _
theorem cutS_S (l : List Nat) (lo hi : Option Int) : cutS (S l) lo hi = S (cutL l lo hi) := by
  unfold cutS cutL
  rw [S_list, S_len]
  rfl
theorem cutL_whole {α : Type} {l : List α} {lo hi : Option Int} (h : HT.sIx l.length 0 lo = 0 ∧ HT.sIx l.length l.length hi = l.length) : cutL l lo hi = l := by
  unfold cutL
  rw [h.1, h.2, List.drop_zero, Nat.sub_zero, List.take_length]
def rSlAll (K : Fg) : V → Option Int → Option Int → Hp → VK → Prop := fun x lo hi H Q => rSlS x lo hi H Q ∨ rSlA K x lo hi H Q ∨ rSlL K x lo hi H Q
theorem sl_all : SlR X (rSlAll X.K) := SlR.or sl_str (SlR.or sl_tupA sl_list)
theorem sim_sl {d : D} {x : V} {lo hi : Option Int} {σ : L2.St} {H : Hp} {Q : VK} (r : Rp K H d x) (po : PostF K cl W0 σ H (oSl d lo hi) Q) : rSlAll K x lo hi H Q := by
  unfold oSl at po
  split at po
  · obtain ⟨hc, po⟩ := need_on po
    obtain rfl := rp_str r
    exact .inl ⟨_, rfl, by rw [S_len]; exact big_le hc, by rw [cutS_S]; exact po _ H (Same.refl H) (rps _) (fresh_no rfl)⟩
  · obtain ⟨a, xs, rfl, ha, hx⟩ := rp_tupH r
    refine .inr (.inl ⟨a, xs, rfl, tq ha, fun hw => ?_, fun _ p hp => ?_⟩)
    · rw [hx.length] at hw
      rw [cutL_whole hw] at po
      exact po _ H (Same.refl H) (rpt ha hx) (fresh_no rfl)
    · have s := same_new (o := .tup (cutV xs lo hi)) hp
      exact po _ _ s (rpt upd_same (RpAll.mono s _ _ (hx.cut lo hi))) (fresh_no rfl)
  · obtain ⟨a, xs, rfl, ha, hx⟩ := rp_list r
    refine .inr (.inr ⟨a, xs, rfl, Or.inl (Or.inl ha), fun p hp => ?_⟩)
    have s := same_new (o := .lst (cutV xs lo hi)) hp
    exact po _ _ s (rpl upd_same (RpAll.mono s _ _ (hx.cut lo hi))) (fresh_of hp)
  · exact po.elim
def dSl (f : Dv → Res D) (l u : Dv → Res (Option Int)) : Dv → Res D := fun δ => (f δ).bind fun d => (l δ).bind fun lo => (u δ).bind fun hi => oSl d lo hi
theorem q_sl {lo hi : Option Expr} {tl th : TO} {fl fu : Dv → Res (Option Int)} {p2 : Pos} (ho : QE X cl W o to f) (hl : QO X cl W lo tl fl) (hu : QO X cl W hi th fu) : QF X cl W (.Subscript o (.Slice lo hi none p2) pos) (tSl (rSlAll X.K) to tl th) (dSl f fl fu) := by
  refine ⟨pe_slice sl_all ho.pe hl.po hu.po, fun δ σ H Q en po => ?_⟩
  show to σ H _
  refine ho.sim.chain (P := fun H r => PostF X.K cl W σ H r Q) en po (fun c h => h) (fun H h => h) fun d v H1 _ s1 r1 p1 => ?_
  have p1 := p1.weak s1
  show tl σ H1 _
  refine hl.sim δ σ H1 _ (en.mono s1) ?_
  change PostF X.K cl W σ H1 ((fl δ).bind _) Q at p1
  cases q1 : fl δ with
  | exc c => rw [q1] at p1; exact p1
  | stuck => rw [q1] at p1; exact p1
  | ok lo' =>
    rw [q1, Res.ok_bind] at p1
    intro H2 s2
    have p2 := p1.weak s2
    show th σ H2 _
    refine hu.sim δ σ H2 _ (en.mono (s1.trans s2)) ?_
    cases q2 : fu δ with
    | exc c => rw [q2] at p2; exact p2
    | stuck => rw [q2] at p2; exact p2
    | ok hi' =>
      rw [q2, Res.ok_bind] at p2
      intro H3 s3
      have p3 := p2.weak s3
      refine sim_sl (cl := cl) (σ := σ) (Rp.mono (s2.trans s3) _ _ r1) ?_
      cases q3 : oSl d lo' hi' with
      | ok d => rw [q3] at p3; exact p3
      | exc c => exact (oSl_ne _ _ _ c q3).elim
      | stuck => rw [q3] at p3; exact p3
end
end DL
namespace DL
open PySem L2
/-! ### s[::-1], s[:0:-1] of a text; l[::-1] of a list -/
theorem rev_all (l : List Nat) : ((Builtin.Str.strSliceIndices none none (-1) l.length).filterMap (fun i => (S l).cps[i]?)).toArray = l.reverse.toArray := by
  have e : Builtin.Str.strSliceIndices none none (-1) l.length = sliceRange ((l.length : Int) - 1) (-1) (-1) := rfl
  have h := PySem.W.krv_all (S l).cps
  have sz : (S l).cps.size = l.length := by simp [S]
  rw [sz, S_list] at h
  rw [e, PySem.W.krv_sliceRange, PySem.W.krv_range, List.filterMap_reverse, h]
theorem sliceRange_back (n : Nat) : sliceRange ((n : Int) - 1) (max (-1) (min 0 ((n : Int) - 1))) (-1) = (List.range (n - 1)).map fun k => n - 1 - k := by
  unfold sliceRange
  have h1 : ¬ ((-1 : Int) > 0) := by decide
  cases n with
  | zero => rfl
  | succ m =>
    have e0 : max (-1) (min 0 (((m + 1 : Nat) : Int) - 1)) = 0 := by omega
    rw [e0]
    by_cases h : (((m + 1 : Nat) : Int) - 1) > 0
    · have e : (((m + 1 : Nat) : Int) - 1 - 0 - -1 - 1) / (- -1) = (m : Int) := by
        rw [show (- -1 : Int) = 1 by decide, Int.ediv_one]
        omega
      simp only [h1, if_false, h, if_true, e, Int.toNat_natCast]
      apply List.map_congr_left
      intro k hk
      have := List.mem_range.mp hk
      omega
    · have e : m = 0 := by omega
      subst e
      rfl
theorem rev_tail (l : List Nat) : ((Builtin.Str.strSliceIndices none (some 0) (-1) l.length).filterMap (fun i => (S l).cps[i]?)).toArray = (l.drop 1).reverse.toArray := by
  have e : Builtin.Str.strSliceIndices none (some 0) (-1) l.length = sliceRange ((l.length : Int) - 1) (max (-1) (min 0 ((l.length : Int) - 1))) (-1) := rfl
  rw [e, sliceRange_back]
  congr 1
  apply List.ext_getElem?
  intro i
  have key : (((List.range (l.length - 1)).map fun k => l.length - 1 - k).filterMap fun i => (S l).cps[i]?) = (List.range (l.length - 1)).map fun k => l.getD (l.length - 1 - k) 0 := by
    rw [List.filterMap_map]
    have gen : ∀ m, m ≤ l.length - 1 → (List.range m).filterMap ((fun i => (S l).cps[i]?) ∘ fun k => l.length - 1 - k) = (List.range m).map fun k => l.getD (l.length - 1 - k) 0 := by
      intro m
      induction m with
      | zero => intro _; rfl
      | succ m ih =>
        intro hm
        rw [List.range_succ, List.filterMap_append, List.map_append, ih (by omega)]
        congr 1
        have : l.length - 1 - m < l.length := by omega
        simp [S, List.getD, this]
    exact gen _ (Nat.le_refl _)
  rw [key, List.getElem?_map]
  by_cases hi : i < l.length - 1
  · rw [List.getElem?_range hi, List.getElem?_reverse (by rw [List.length_drop]; omega), List.length_drop, List.getElem?_drop]
    have e1 : 1 + (l.length - 1 - 1 - i) = l.length - 1 - i := by omega
    rw [e1]
    have : l.length - 1 - i < l.length := by omega
    simp [List.getD, this]
  · rw [List.getElem?_eq_none (by rw [List.length_range]; omega), List.getElem?_eq_none (by rw [List.length_reverse, List.length_drop]; omega)]
    rfl
section
variable {X : Cx} {cl : Nat → Addr} {W : WX} {e : Expr} {te : TE} {f : Dv → Res D} {k : Nat} {p1 p2 p3 pos : Pos}
/-- to the end, or without the first -/
def tRevS (te : TE) (g : List Nat → List Nat) : TE := fun σ H Q => te σ H fun x H1 => ∃ l, x = .str (S l) ∧ l.length ≤ big ∧ Q (.str (S (g l))) H1
theorem rev_core {hi : Option Expr} {th : TO} {o : Option Int} {g : List Nat → List Nat} (hh : PO X hi th) (he : PE X e te) (ho : ∀ σ H Q, Q o H → th σ H Q) (hg : ∀ l : List Nat, ((Builtin.Str.strSliceIndices none o (-1) l.length).filterMap (fun i => (S l).cps[i]?)).toArray = (g l).toArray) (hl : ∀ l, (g l).length ≤ l.length) :
    PE X (.Subscript e (.Slice none hi (some (.UnaryOp .USub (.Constant (.int 1) k p1) p2)) p3) pos) (tRevS te g) := by
  refine ⟨fun pins s σ H Q I h => ?_⟩
  refine PyProof.Rows.Subscript_ (thn (he.run pins s σ H _ I h) fun v s1 ⟨x, H1, I1, r1, q1⟩ => ?_)
  obtain ⟨l, ex, hz, q⟩ := q1
  subst ex
  obtain ⟨t, rfl⟩ := r1
  have hst : PO X (some (.UnaryOp .USub (.Constant (.int 1) k p1) p2)) (tPart (tUn (rU fun i => .int (-i)) (tC (.int 1)))) := po_some (pe_un un_neg pe_int)
  refine wpAny_Slice (thn (po_none.run pins s1 σ H1 (fun o H2 => o = none ∧ H2 = H1) I1 ⟨rfl, rfl⟩) fun vl s2 ⟨lo, H2, I2, pl, el, e2⟩ => ?_)
  subst el e2
  refine thn (hh.run pins s2 σ H2 (fun o' H3 => o' = o ∧ H3 = H2) I2 (ho _ _ _ ⟨rfl, rfl⟩)) fun vu s3 ⟨u, H3, I3, pu, eu, e3⟩ => ?_
  subst eu e3
  refine thn (hst.run pins s3 σ H3 (fun o H4 => o = some (-1) ∧ H4 = H3) I3 ⟨1, rfl, -1, rfl, rfl, rfl⟩) fun vs s4 ⟨o2, H4, I4, ps, eo, e4⟩ => ?_
  subst eo e4
  have I5 : L2.Inv X pins σ H4 { s4 with heap := s4.heap.push { cls := .type "slice", data := .fields #[vl, vu, vs] } } := I4.kept (t' := s4.toks) fun b ob q => Heap.get?_push_of_some _ q
  show wpAny (model X.prog X.w) X.A (PyProof.Rows.subscriptTail e (.Slice none hi (some (.UnaryOp .USub (.Constant (.int 1) k p1) p2)) p3) (.str (S l) t) (.ref s4.heap.objs.size)) (EP X pins σ Q) X.xe { s4 with heap := s4.heap.push { cls := .type "slice", data := .fields #[vl, vu, vs] } }
  obtain ⟨l1, rfl, el1⟩ := IsPart.raw pl
  obtain ⟨u1, rfl, eu1⟩ := IsPart.raw pu
  obtain ⟨s1', rfl, es1⟩ := IsPart.raw ps
  refine PyProof.Rows.tail_any (ops := [.ref s4.heap.objs.size, .str (S l) t]) (typeIs_str _ _ _) F.slot_str_getitem.lookup ?_ (by with_unfolding_all rfl)
  refine wpAny_getItem_str_slice (l := l1) (u := u1) (st := s1') ⟨_, Heap.get?_push_size _ rfl, rfl, rfl⟩ (by rw [es1]; rfl) ?_
  unfold sliceMade
  have ne1 : ¬ (((s1'.map (·.1)).getD 1 == 1) && (slicePicked (S l) l1 u1 s1').length == (S l).length) = true := by
    rw [es1]
    show ¬ (((-1 : Int) == 1) && _) = true
    simp
  rw [if_neg ne1]
  have epick : slicePicked (S l) l1 u1 s1' = Builtin.Str.strSliceIndices none u (-1) l.length := by
    unfold slicePicked
    rw [el1, eu1, es1, S_len]
    rfl
  rw [epick, hg]
  refine ⟨?_, .str (S (g l)), H4, I5.tok _, ⟨_, rfl⟩, q⟩
  show (S (g l)).length ≤ sizeLine
  rw [S_len]
  exact big_le (Nat.le_trans (hl l) hz)
def oRevS (g : List Nat → List Nat) (d : D) : Res D := match d with
  | .str l => Res.need (l.length ≤ big) (.ok (.str (g l)))
  | _ => .stuck
theorem revS_sim {g : List Nat → List Nat} (s : SimE X.K cl W te f) : SimF X.K cl W (tRevS te g) (fun δ => (f δ).bind (oRevS g)) := by
  intro δ σ H Q en po
  show te σ H _
  refine s.chain (P := fun H r => PostF X.K cl W σ H r Q) en po (fun c h => h) (fun H h => h) fun d v H1 _ s1 r1 p1 => ?_
  cases d with
  | str l =>
    obtain ⟨hc, p1⟩ := need_on p1
    obtain rfl := rp_str r1
    exact ⟨l, rfl, hc, p1 _ H1 s1 (rps _) (fresh_no rfl)⟩
  | _ => exact p1.elim
theorem q_revS (he : QE X cl W e te f) : QF X cl W (.Subscript e (.Slice none none (some (.UnaryOp .USub (.Constant (.int 1) k p1) p2)) p3) pos) (tRevS te List.reverse) (fun δ => (f δ).bind (oRevS List.reverse)) :=
  ⟨rev_core po_none he.pe (fun _ _ _ h => h) rev_all (fun l => by rw [List.length_reverse]; exact Nat.le_refl _), revS_sim he.sim⟩
theorem q_revT {j : Nat} {p4 : Pos} (he : QE X cl W e te f) : QF X cl W (.Subscript e (.Slice none (some (.Constant (.int 0) j p4)) (some (.UnaryOp .USub (.Constant (.int 1) k p1) p2)) p3) pos) (tRevS te fun l => (l.drop 1).reverse) (fun δ => (f δ).bind (oRevS fun l => (l.drop 1).reverse)) :=
  ⟨rev_core (po_some pe_int) he.pe (fun _ _ _ h => ⟨0, rfl, h⟩) rev_tail (fun l => by rw [List.length_reverse, List.length_drop]; omega), revS_sim he.sim⟩
end
/-! ### comprehensions -/
section
variable {X : Cx} {cl : Nat → Addr} {W : WX} {elt tg iter : Expr} {ifs : List Expr} {scope : Scope} {own : List (Str × Nat)} {pos : Pos} {wi : TI} {g : TG} {tt : TT} {te : TE} {fi : Dv → Res (List D)} {k : D → Dv → Option Dv} {ft : Dv → Res Bool} {fe : Dv → Res D}
structure QTs (X : Cx) (cl : Nat → Addr) (W : WX) (es : List Expr) (tt : TT) (f : Dv → Res Bool) : Prop where
  pe : PTs X es tt
  sim : SimT X.K cl W tt f
def bYes : Dv → Res Bool := fun _ => .ok true
theorem ts_nil : QTs X cl W [] tYes bYes := ⟨pts_nil, fun δ σ H Q en po => po H (Same.refl H)⟩
theorem ts_one {c : Expr} (h : QT X cl W c tt ft) : QTs X cl W [c] tt ft := ⟨pts_one h.pe, h.sim⟩
structure QK (X : Cx) (vs : List Nat) (tg : Expr) (g : TG) (k : D → Dv → Option Dv) : Prop where
  pg : PG X tg g
  sim : SimK X.K vs g k
structure QKs (X : Cx) (vs : List Nat) (tg : List Expr) (g : TGs) (k : List D → Dv → Option Dv) : Prop where
  pg : PGs X tg g
  sim : SimKs X.K vs g k
theorem h_name {vs : List Nat} {i : Nat} {x : Str} {p : Pos} (hN : X.N.Nodup) (hi : X.N[i]? = some x) (hx : Loc X.env.scope x) (hv : i ∈ vs) (hf : X.fn x = true ∨ X.env.scope.names.lookup x = some .local := by first | exact .inl rfl | exact .inr rfl | assumption) : QK X vs (.Name x p) (gName i) (hName i) := ⟨pg_name hN hi hx hf, k_name hv⟩
theorem hs_nil {vs : List Nat} : QKs X vs [] gNil hNil := ⟨pgs_nil, ks_nil⟩
theorem hs_cons {vs : List Nat} {e : Expr} {es : List Expr} {t : TG} {u : TGs} {ks : List D → Dv → Option Dv} (h1 : QK X vs e t k) (h2 : QKs X vs es u ks) (hs : (assignEach (e :: es) X.env).map (·.2) = assign e X.env :: (assignEach es X.env).map (·.2) := by rfl) : QKs X vs (e :: es) (gCons t u) (hCons k ks) :=
  ⟨pgs_cons h1.pg h2.pg hs, ks_cons h1.sim h2.sim⟩
theorem h_tup {vs : List Nat} {es : List Expr} {kk n : Nat} {u : TGs} {ks : List D → Dv → Option Dv} {p : Pos} (hc : X.calm = true) (h : QKs X vs es u ks) (hn : (assignEach es X.env).length = n := by rfl) (hst : (assignEach es X.env).findIdx? (·.1) = none := by rfl) : QK X vs (.Tuple es kk p) (gTup X.K n u) (hTup n ks) :=
  ⟨pg_tup hc h.pg hn hst, k_tup h.sim⟩
/-- what [elt for tg in iter if ..] comes to -/
def dLc (vs : List Nat) (fi : Dv → Res (List D)) (k : D → Dv → Option Dv) (ft : Dv → Res Bool) (fe : Dv → Res D) : Dv → Res D := fun δ => (fi δ).bind fun xs => calmly (Res.need (xs.length ≤ big) ((compM (compOne k ft fe (wipeD δ vs)) xs).bind fun ys => .ok (.list ys)))
/-! the reading by the data alone: it is the same in every block -/
def canE (K : Fg) (cl : Nat → Addr) (W : WX) (f : Dv → Res D) : TE := fun σ H Q => ∃ δ, EnvD K H σ δ ∧ PostE K cl W σ H (f δ) Q
def canT (K : Fg) (cl : Nat → Addr) (W : WX) (f : Dv → Res Bool) : TT := fun σ H Q => ∃ δ, EnvD K H σ δ ∧ PostB cl W σ H (f δ) Q
def canG (K : Fg) (vs : List Nat) (k : D → Dv → Option Dv) : TG := fun v σ H Q => ∃ d δ δ', EnvD K H σ δ ∧ Rp K H d v ∧ k d δ = some δ' ∧ ∀ σ', EnvD K H σ' δ' → wipe σ' vs = wipe σ vs → Q σ' H
theorem QE.can {e : Expr} {te : TE} {f : Dv → Res D} (h : QE X cl W e te f) : QE X cl W e (canE X.K cl W f) f :=
  ⟨⟨fun pins s σ H Q I ⟨δ, en, po⟩ => h.pe.run pins s σ H Q I (h.sim δ σ H Q en po)⟩, fun δ _ _ _ en po => ⟨δ, en, po⟩⟩
theorem QTs.can {es : List Expr} {tt : TT} {f : Dv → Res Bool} (h : QTs X cl W es tt f) : QTs X cl W es (canT X.K cl W f) f :=
  ⟨⟨fun pins s σ H Q I ⟨δ, en, po⟩ => h.pe.run pins s σ H Q I (h.sim δ σ H Q en po)⟩, fun δ _ _ _ en po => ⟨δ, en, po⟩⟩
theorem QK.can {vs : List Nat} {tg : Expr} {g : TG} (h : QK X vs tg g k) : QK X vs tg (canG X.K vs k) k :=
  ⟨⟨fun pins s σ H v u Q I r ⟨d, δ, δ', en, rp, kk, hq⟩ => h.pg.run pins s σ H v u Q I r (h.sim H σ δ δ' d v Q en rp kk hq)⟩, fun H σ δ δ' d v Q en rp kk hq => ⟨d, δ, δ', en, rp, kk, hq⟩⟩
theorem q_lc (hc : X.calm = true) (hN : X.N.Nodup) (hi : QJ X cl W tg iter wi fi) (ok : BlkOk X.N X.env.scope scope own)
    (hg : ∀ (s : Shared) (H : Hp) (C : Addr) (cs : List (Str × Addr)) (fp : List Addr), ∃ g, QK (X.blk s H scope (compEnvC scope cs C X.env) fp) (own.map (·.2)) tg g k)
    (ht : ∀ (s : Shared) (H : Hp) (C : Addr) (cs : List (Str × Addr)) (fp : List Addr), ∃ tt, QTs (X.blk s H scope (compEnvC scope cs C X.env) fp) cl W0 ifs tt ft)
    (he : ∀ (s : Shared) (H : Hp) (C : Addr) (cs : List (Str × Addr)) (fp : List Addr), ∃ te, QE (X.blk s H scope (compEnvC scope cs C X.env) fp) cl W0 elt te fe) (hs : ∀ x, foldedSetIterable iter X.env x = pure x := by intro _; rfl) :
    QF X cl W (.ListComp elt [⟨tg, iter, ifs, 0⟩] scope pos) (tLc wi (canG X.K (own.map (·.2)) k) (canT X.K cl W0 ft) (canE X.K cl W0 fe) (own.map (·.2))) (dLc (own.map (·.2)) fi k ft fe) := by
  have hg' : ∀ (s : Shared) (H : Hp) (C : Addr) (cs : List (Str × Addr)) (fp : List Addr), QK (X.blk s H scope (compEnvC scope cs C X.env) fp) (own.map (·.2)) tg (canG X.K (own.map (·.2)) k) k := fun s H C cs fp => by
    obtain ⟨_, h⟩ := hg s H C cs fp
    exact h.can
  have ht' : ∀ (s : Shared) (H : Hp) (C : Addr) (cs : List (Str × Addr)) (fp : List Addr), QTs (X.blk s H scope (compEnvC scope cs C X.env) fp) cl W0 ifs (canT X.K cl W0 ft) ft := fun s H C cs fp => by
    obtain ⟨_, h⟩ := ht s H C cs fp
    exact h.can
  have he' : ∀ (s : Shared) (H : Hp) (C : Addr) (cs : List (Str × Addr)) (fp : List Addr), QE (X.blk s H scope (compEnvC scope cs C X.env) fp) cl W0 elt (canE X.K cl W0 fe) fe := fun s H C cs fp => by
    obtain ⟨_, h⟩ := he s H C cs fp
    exact h.can
  refine ⟨pe_lc hc hN hi.pi ok (fun s H C cs fp => (hg' s H C cs fp).pg) (fun s H C cs fp => (ht' s H C cs fp).pe) (fun s H C cs fp => (he' s H C cs fp).pe) hs, ?_⟩
  have s0 : Shared := X.s_0
  exact lc_sim hi.sim (hg' s0 X.H_0 0 [] []).sim (ht' s0 X.H_0 0 [] []).sim (he' s0 X.H_0 0 [] []).sim
/-- name = [..] on one line -/
theorem s_setLc0 {i : Nat} {y : Str} {py spos : Pos} (hc : X.calm = true) (hN : X.N.Nodup) (hy : X.N[i]? = some y) (hyl : X.env.scope.names.lookup y = some .local) (sw : swapsWith (.ListComp elt [⟨tg, iter, ifs, 0⟩] scope pos) (some (.Name y py)) spos.line X.env = pure true) (hi : QJ X cl W tg iter wi fi) (ok : BlkOk X.N X.env.scope scope own)
    (hg : ∀ (s : Shared) (H : Hp) (C : Addr) (cs : List (Str × Addr)) (fp : List Addr), ∃ g, QK (X.blk s H scope (compEnvC scope cs C X.env) fp) (own.map (·.2)) tg g k)
    (ht : ∀ (s : Shared) (H : Hp) (C : Addr) (cs : List (Str × Addr)) (fp : List Addr), ∃ tt, QTs (X.blk s H scope (compEnvC scope cs C X.env) fp) cl W0 ifs tt ft)
    (he : ∀ (s : Shared) (H : Hp) (C : Addr) (cs : List (Str × Addr)) (fp : List Addr), ∃ te, QE (X.blk s H scope (compEnvC scope cs C X.env) fp) cl W0 elt te fe) (hs : ∀ x, foldedSetIterable iter X.env x = pure x := by intro _; rfl) :
    PS X (.Assign [.Name y py] (.ListComp elt [⟨tg, iter, ifs, 0⟩] scope pos) spos) (tAsg (tLc wi (canG X.K (own.map (·.2)) k) (canT X.K cl W0 ft) (canE X.K cl W0 fe) (own.map (·.2))) (gName i)) ∧
      SimF X.K cl W (tLc wi (canG X.K (own.map (·.2)) k) (canT X.K cl W0 ft) (canE X.K cl W0 fe) (own.map (·.2))) (dLc (own.map (·.2)) fi k ft fe) := by
  have hg' : ∀ (s : Shared) (H : Hp) (C : Addr) (cs : List (Str × Addr)) (fp : List Addr), QK (X.blk s H scope (compEnvC scope cs C X.env) fp) (own.map (·.2)) tg (canG X.K (own.map (·.2)) k) k := fun s H C cs fp => by
    obtain ⟨_, h⟩ := hg s H C cs fp
    exact h.can
  have ht' : ∀ (s : Shared) (H : Hp) (C : Addr) (cs : List (Str × Addr)) (fp : List Addr), QTs (X.blk s H scope (compEnvC scope cs C X.env) fp) cl W0 ifs (canT X.K cl W0 ft) ft := fun s H C cs fp => by
    obtain ⟨_, h⟩ := ht s H C cs fp
    exact h.can
  have he' : ∀ (s : Shared) (H : Hp) (C : Addr) (cs : List (Str × Addr)) (fp : List Addr), QE (X.blk s H scope (compEnvC scope cs C X.env) fp) cl W0 elt (canE X.K cl W0 fe) fe := fun s H C cs fp => by
    obtain ⟨_, h⟩ := he s H C cs fp
    exact h.can
  refine ⟨ps_setLc hc hN hy hyl sw hi.pi ok (fun s H C cs fp => (hg' s H C cs fp).pg) (fun s H C cs fp => (ht' s H C cs fp).pe) (fun s H C cs fp => (he' s H C cs fp).pe) hs, ?_⟩
  have s0 : Shared := X.s_0
  exact lc_sim hi.sim (hg' s0 X.H_0 0 [] []).sim (ht' s0 X.H_0 0 [] []).sim (he' s0 X.H_0 0 [] []).sim
end
end DL
namespace DL
open PySem L2
section
variable {X : Cx} {cl : Nat → Addr} {W : WX} {K : Fg}
/-! ### a slot is filled: read only, or as the body's own -/
def mk (m : Bool) (x : D) : Option Sl := some (if m = true then .ow x else .fz x)
def okM (m : Bool) (x : D) : Prop := calm x = true ∧ (m = true → isBox x = true ∧ notScr x = true)
theorem SQ.putM {H0 H H' : Hp} {ε : Env} {σ : L2.St} {v : V} {d : D} {i : Nat} {m : Bool} (h : SQ K H0 ε σ H) (hi : i < ε.length) (c : okM m d) (s : Same H H') (r : Rp K H' d v) (fr : Fresh H v d) : SQ K H0 (ε.set i (mk m d)) (σ.set i (some v)) H' := by
  cases m with
  | true => exact h.putOwn hi (c.2 rfl).1 (boxy_of (c.2 rfl).2 r) c.1 s r fr
  | false => exact h.put hi c.1 s r fr
/-! ### x, y = a, b -/
def gPar (i j : Nat) (m n : Bool) (f h : Dv → Res D) : DS := fun d ε => (f (view ε)).on (fun x => (h (view ε)).on (fun y => (i < ε.length ∧ j < ε.length ∧ okM m x ∧ okM n y) ∧ d.nx ((ε.set i (mk m x)).set j (mk n y))) (fun c => d.ex c ε)) (fun c => d.ex c ε)
variable {a b c : Expr} {ta tb tc : TE} {f h l : Dv → Res D} {pos px py pz pt pt2 : Pos} {kt k2 : Nat}
theorem s_par {i j : Nat} (m n : Bool) {x y : Str} (ha : QF X cl W a ta f) (hb : QF X cl W b tb h) (hc : X.calm = true) (hN : X.N.Nodup) (hi : X.N[i]? = some x) (hj : X.N[j]? = some y) (hij : i ≠ j)
    (hx : X.env.scope.names.lookup x = some .local) (hy : X.env.scope.names.lookup y = some .local) (hw : swappedStores [.Tuple [.Name x px, .Name y py] kt pt] (.Tuple [a, b] k2 pt2) X.env = pure (some [x, y]))
    (hs : swapsWithSole [.Tuple [.Name x px, .Name y py] kt pt] (.Tuple [a, b] k2 pt2) pos.line X.env = pure false := by rfl) (st1 : starEach [a, b] X.env = (false, eval a X.env) :: starEach [b] X.env := by rfl) (st2 : starEach [b] X.env = (false, eval b X.env) :: starEach [] X.env := by rfl) :
    QS X cl W (.Assign [.Tuple [.Name x px, .Name y py] kt pt] (.Tuple [a, b] k2 pt2) pos) (tPar i j (tCons ta (tCons tb tNil))) (gPar i j m n f h) := by
  refine ⟨ps_par hc hN hi hj hij hx hy (pa_cons ha.pe (pa_cons hb.pe pa_nil st2) st1) hw hs, fun H0 d D' ε σ H en q hh => ?_⟩
  show ta σ H _
  refine ha.sim.runS en q hh fun u v H1 _ s1 r1 f1 h1 => ?_
  show tb σ H1 _
  refine hb.sim.runS en (q.mono s1) h1 fun u2 w H2 _ s2 r2 f2 h2 => ?_
  obtain ⟨⟨l1, l2, o1, o2⟩, nx⟩ := h2
  refine ⟨v, w, rfl, en.nx _ _ _ (SQ.putM (SQ.putM q l1 o1 s1 r1 f1) (by rw [List.length_set]; exact l2) o2 s2 r2 f2) nx⟩
/-! ### methods that change a list of the body's own -/
variable {o : Expr} {to te : TE} {apos cpos : Pos}
theorem SQ.own_at {H0 H : Hp} {ε : Env} {σ : L2.St} {i : Nat} {l : List D} (q : SQ K H0 ε σ H) (h : ε[i]? = some (some (.ow (.list l)))) : ∃ a xs, σ[i]? = some (some (.ref a)) ∧ H a = some (.lst xs) ∧ RpAll K H l xs := by
  obtain ⟨⟨M, t1, b, f0, ow, n⟩, len⟩ := q
  obtain ⟨a, h1, h2, h3, h4, h5⟩ := ow i _ h
  obtain ⟨a', xs, e, ha, hx⟩ := rp_list h5
  cases e
  exact ⟨a, xs, h1, ha, hx⟩
def gApp (i : Nat) (f : Dv → Res D) : DS := fun d ε => ∃ l, ε[i]? = some (some (.ow (.list l))) ∧ immAll l = true ∧ (f (view ε)).on (fun x => imm x = true ∧ l.length < big ∧ d.nx (ε.set i (some (.ow (.list (l ++ [x])))))) (fun c => d.ex c ε)
theorem immAll_app {a b : List D} (h1 : immAll a = true) (h2 : immAll b = true) : immAll (a ++ b) = true := by
  rw [immAll_iff] at h1 h2 ⊢
  intro d hd
  rcases List.mem_append.mp hd with hd | hd
  · exact h1 d hd
  · exact h2 d hd
theorem immAll_one {d : D} (h : imm d = true) : immAll [d] = true := by
  unfold immAll
  rw [h]
  rfl
theorem s_app {i : Nat} (ho : PE X o (tVar i)) (he : QE X cl W a te f) (hs : starEach [a] X.env = (false, eval a X.env) :: starEach [] X.env := by rfl)
    (hbase : attributeBase o "append" X.env (eval o X.env) = eval o X.env := by rfl) (hfew : ((backTo cpos (starEach [a] X.env)).all (fun x => !x.1) && (backToKw cpos (keywordEach [] X.env)).all (fun x => x.1.isSome)
      && decide (([a] : List Expr).length + ([] : List Keyword).length + (if ([] : List Keyword).isEmpty then 0 else 1) < 30)) = true := by rfl) (hline : (apos.endLine == cpos.line) = true := by rfl) (hsw : swapsWith (.Call (.Attribute o "append" apos) [a] [] cpos) none pos.line X.env = pure false := by rfl) :
    QS X cl W (.Expr (.Call (.Attribute o "append" apos) [a] [] cpos) pos) (tDrop (tBM X.K "list" rAppend (tVar i) (tCons te tNil))) (gApp i f) := by
  refine ⟨ps_expr (pe_bm PySem.F.plainAttrs_list PySem.F.slot_list_append PySem.F.type_list_append mt_append ho (pa_cons he.pe pa_nil hs) (hbase := hbase) (hfew := hfew) (hline := hline) (hs := hs)) hsw, fun H0 d D' ε σ H en q hh => ?_⟩
  obtain ⟨l, hl, im, hh⟩ := hh
  obtain ⟨p, xs, h1, h2, h3⟩ := q.own_at hl
  refine ⟨.ref p, h1, .inl ⟨rfl, xs, Or.inl (Or.inl h2)⟩, ?_⟩
  show te σ H _
  refine he.sim.runS en q hh fun x v H1 _ s1 r1 ⟨i1, i2, i3⟩ => ?_
  refine ⟨p, xs, v, rfl, rfl, s1 _ _ h2, ?_, ?_⟩
  · rw [h3.length]; exact big_lt (Nat.le_of_lt i2)
  · exact en.nx _ _ _ ((q.mono s1).change hl h1 (immAll_app im (immAll_one i1)) ((RpAll.mono s1 _ _ h3).append (.cons r1 .nil))) i3
def gExt (i : Nat) (f : Dv → Res D) : DS := fun d ε => ∃ l, ε[i]? = some (some (.ow (.list l))) ∧ immAll l = true ∧ (f (view ε)).on (fun x => ∃ m, x = .list m ∧ immAll m = true ∧ l.length + m.length ≤ big ∧ d.nx (ε.set i (some (.ow (.list (l ++ m)))))) (fun c => d.ex c ε)
theorem s_ext {i : Nat} (ho : PE X o (tVar i)) (he : QE X cl W a te f) (hs : starEach [a] X.env = (false, eval a X.env) :: starEach [] X.env := by rfl)
    (hbase : attributeBase o "extend" X.env (eval o X.env) = eval o X.env := by rfl) (hfew : ((backTo cpos (starEach [a] X.env)).all (fun x => !x.1) && (backToKw cpos (keywordEach [] X.env)).all (fun x => x.1.isSome)
      && decide (([a] : List Expr).length + ([] : List Keyword).length + (if ([] : List Keyword).isEmpty then 0 else 1) < 30)) = true := by rfl) (hline : (apos.endLine == cpos.line) = true := by rfl) (hsw : swapsWith (.Call (.Attribute o "extend" apos) [a] [] cpos) none pos.line X.env = pure false := by rfl) :
    QS X cl W (.Expr (.Call (.Attribute o "extend" apos) [a] [] cpos) pos) (tDrop (tBM X.K "list" rExtend (tVar i) (tCons te tNil))) (gExt i f) := by
  refine ⟨ps_expr (pe_bm PySem.F.plainAttrs_list PySem.F.slot_list_extend PySem.F.type_list_extend mt_extend ho (pa_cons he.pe pa_nil hs) (hbase := hbase) (hfew := hfew) (hline := hline) (hs := hs)) hsw, fun H0 d D' ε σ H en q hh => ?_⟩
  obtain ⟨l, hl, im, hh⟩ := hh
  obtain ⟨p, xs, h1, h2, h3⟩ := q.own_at hl
  refine ⟨.ref p, h1, .inl ⟨rfl, xs, Or.inl (Or.inl h2)⟩, ?_⟩
  show te σ H _
  refine he.sim.runS en q hh fun x v H1 _ s1 r1 hk => ?_
  obtain ⟨m, rfl, im2, hz, nx⟩ := hk
  obtain ⟨b, ys, rfl, hb, hy⟩ := rp_list r1
  refine ⟨p, b, xs, ys, rfl, rfl, s1 _ _ h2, hb, ?_, ?_⟩
  · rw [h3.length, hy.length]; exact big_le hz
  · exact en.nx _ _ _ ((q.mono s1).change hl h1 (immAll_app im im2) ((RpAll.mono s1 _ _ h3).append hy)) nx
/-- l.remove(c), texts -/
def rRemS : V → List V → Hp → VK → Prop := fun x xs H Q => ∃ (l : Addr) (ns : List Str) (k : Str) (j : Nat), x = .ref l ∧ xs = [.str k] ∧ H l = some (.lst (ns.map V.str)) ∧ ns[j]? = some k ∧ (∀ m : Nat, m < j → ns[m]? ≠ some k) ∧ Q .non (upd H l (.lst ((ns.eraseIdx j).map V.str)))
theorem strs_get {ns : List Str} {its : List Value} (r : Vals (ns.map V.str) its) {m : Nat} {z : Str} (h : ns[m]? = some z) : ∃ t : Tok, its[m]? = some (Value.str z t) := by
  have : ∀ (ns : List Str) (its : List Value), Vals (ns.map V.str) its → ∀ (m : Nat) (z : Str), ns[m]? = some z → ∃ t : Tok, its[m]? = some (Value.str z t) := by
    intro ns
    induction ns with
    | nil => intro its r m z h; cases h
    | cons n ns ih =>
      intro its r m z h
      cases r with
      | cons r1 r2 =>
        cases m with
        | zero =>
          cases h
          obtain ⟨t, rfl⟩ := r1
          exact ⟨t, rfl⟩
        | succ m => exact ih _ r2 m z h
  exact this ns its r m z h
theorem erase_mapS (f : Str → V) : ∀ (ns : List Str) (j : Nat), (ns.map f).eraseIdx j = (ns.eraseIdx j).map f
  | [], _ => rfl
  | n :: ns, 0 => rfl
  | n :: ns, j + 1 => by
    show f n :: (ns.map f).eraseIdx j = f n :: (ns.eraseIdx j).map f
    rw [erase_mapS f ns j]
def eqs (k : Str) : Value → Bool
  | .str a _ => a == k
  | _ => false
theorem mt_removeS : MtM X "list.remove" rRemS := by
  intro pins s σ H x xs v us Q I rx rxs h
  obtain ⟨l, ns, k, j, rfl, rfl, hH, hj, hno, q⟩ := h
  cases rx
  obtain ⟨u, rfl, ru⟩ := rxs.one
  obtain ⟨t, rfl⟩ := ru
  obtain ⟨z, its, n, r, hl, e⟩ := I.lstM hH
  rw [List.length_map] at hl z
  have hjn : j < ns.length := (List.getElem?_eq_some_iff.mp hj).1
  have hjl : j < its.toArray.size := by rw [List.size_toArray]; omega
  have gives : ∀ y ∈ its, MeetsSeq.EqGives y (.str k t) (eqs k y) := by
    have : ∀ (ns : List Str) (its : List Value), Vals (ns.map V.str) its → ∀ y ∈ its, MeetsSeq.EqGives y (.str k t) (eqs k y) := by
      intro ns
      induction ns with
      | nil => intro its r y hy; cases r; cases hy
      | cons m ns ih =>
        intro its r y hy
        cases r with
        | cons r1 r2 =>
          rcases List.mem_cons.mp hy with rfl | hy
          · obtain ⟨t1, rfl⟩ := r1
            exact PyProof.Rows.eqGives_str m k t1 t
          · exact ih _ r2 y hy
    exact this ns its r
  refine call_meets PySem.F.slot_list_remove ⟨_, e, rfl⟩ PySem.F.entry_list_remove (PySem.F.args_list_remove_2 _ _)
    (MeetsSeq.list_remove l its.toArray n (.str k t) (eqs k) (fun y hy => gives y (by simpa using hy)) j hjl ?_ ?_ (by rw [List.size_toArray]; omega)) ⟨e, ?_⟩
  · obtain ⟨tj, hjt⟩ := strs_get r hj
    obtain ⟨h1, h2⟩ := List.getElem?_eq_some_iff.mp hjt
    have e1 : its.toArray[j] = .str k tj := by simpa using h2
    rw [e1]
    exact beq_self_eq_true k
  · intro m hm hmj
    have hmn : m < ns.length := by omega
    obtain ⟨tm, hmt⟩ := strs_get r (List.getElem?_eq_getElem hmn)
    obtain ⟨h1, h2⟩ := List.getElem?_eq_some_iff.mp hmt
    have e1 : its.toArray[m] = .str ns[m] tm := by simpa using h2
    rw [e1]
    refine beq_eq_false_iff_ne.mpr fun e2 => hno m hmj ?_
    rw [List.getElem?_eq_getElem hmn, e2]
  · have rr := r.eraseIdx j
    rw [erase_mapS] at rr
    have lenE : (ns.eraseIdx j).length ≤ ns.length := List.length_eraseIdx_le ..
    refine ⟨.non, _, I.lset (its' := its.eraseIdx j) (t' := s.toks) hH e ?_ rr (by rw [List.length_map]; omega), rfl, q⟩
    show its.toArray.eraseIdxIfInBounds j = (its.eraseIdx j).toArray
    rw [List.eraseIdxIfInBounds_toArray]
/-- texts in a list -/
def txts : List D → Option (List (List Nat))
  | [] => some []
  | .str b :: r => (txts r).map (b :: ·)
  | _ => none
theorem strs_rp {H : Hp} : ∀ {l : List D} {bs : List (List Nat)} {xs : List V}, txts l = some bs → RpAll K H l xs → xs = (bs.map S).map V.str ∧ l = bs.map D.str
  | [], bs, xs, h, r => by
    unfold txts at h
    unfold RpAll at r
    cases h
    exact ⟨r, rfl⟩
  | d :: l, bs, xs, h, r => by
    unfold RpAll at r
    obtain ⟨v, t, rfl, h1, h2⟩ := r
    cases d with
    | str b =>
      unfold txts at h
      cases e : txts l with
      | none => rw [e] at h; cases h
      | some cs =>
        rw [e] at h
        cases h
        obtain rfl := rp_str h1
        obtain ⟨e1, e2⟩ := strs_rp e h2
        rw [e1, e2]
        exact ⟨rfl, rfl⟩
    | _ => cases h
theorem strs_map (bs : List (List Nat)) : txts (bs.map D.str) = some bs := by
  induction bs with
  | nil => rfl
  | cons b bs ih =>
    show (txts (bs.map D.str)).map (b :: ·) = some (b :: bs)
    rw [ih]
    rfl
theorem imm_strs (bs : List (List Nat)) : immAll (bs.map D.str) = true := by
  rw [immAll_iff]
  intro d hd
  obtain ⟨b, _, rfl⟩ := List.mem_map.mp hd
  unfold imm
  rfl
def gRem (i : Nat) (f : Dv → Res D) : DS := fun d ε => ∃ bs : List (List Nat), ε[i]? = some (some (.ow (.list (bs.map D.str)))) ∧ (f (view ε)).on (fun x => ∃ b, x = .str b ∧ b ∈ bs ∧ d.nx (ε.set i (some (.ow (.list ((bs.erase b).map D.str)))))) (fun c => d.ex c ε)
theorem erase_idx {α : Type} [BEq α] [LawfulBEq α] : ∀ (l : List α) (a : α), a ∈ l → l[l.idxOf a]? = some a ∧ (∀ m, m < l.idxOf a → l[m]? ≠ some a) ∧ l.eraseIdx (l.idxOf a) = l.erase a
  | [], a, h => by cases h
  | b :: l, a, h => by
    rcases Classical.em (b = a) with e | e
    · subst e
      have e1 : (b :: l).idxOf b = 0 := by simp
      rw [e1]
      exact ⟨rfl, fun m hm => absurd hm (Nat.not_lt_zero _), by simp⟩
    · have e1 : (b :: l).idxOf a = l.idxOf a + 1 := by
        rw [List.idxOf_cons]
        have : (b == a) = false := beq_eq_false_iff_ne.mpr e
        rw [this]
        rfl
      have hm : a ∈ l := by
        rcases List.mem_cons.mp h with z | z
        · exact (e z.symm).elim
        · exact z
      obtain ⟨h1, h2, h3⟩ := erase_idx l a hm
      rw [e1]
      refine ⟨h1, fun m hm' => ?_, ?_⟩
      · cases m with
        | zero => intro z; cases z; exact e rfl
        | succ m => exact h2 m (Nat.lt_of_succ_lt_succ hm')
      · show b :: l.eraseIdx (l.idxOf a) = (b :: l).erase a
        rw [h3, List.erase_cons_tail (by simpa using e)]
theorem s_rem {i : Nat} (ho : PE X o (tVar i)) (he : QE X cl W a te f) (hs : starEach [a] X.env = (false, eval a X.env) :: starEach [] X.env := by rfl)
    (hbase : attributeBase o "remove" X.env (eval o X.env) = eval o X.env := by rfl) (hfew : ((backTo cpos (starEach [a] X.env)).all (fun x => !x.1) && (backToKw cpos (keywordEach [] X.env)).all (fun x => x.1.isSome)
      && decide (([a] : List Expr).length + ([] : List Keyword).length + (if ([] : List Keyword).isEmpty then 0 else 1) < 30)) = true := by rfl) (hline : (apos.endLine == cpos.line) = true := by rfl) (hsw : swapsWith (.Call (.Attribute o "remove" apos) [a] [] cpos) none pos.line X.env = pure false := by rfl) :
    QS X cl W (.Expr (.Call (.Attribute o "remove" apos) [a] [] cpos) pos) (tDrop (tBM X.K "list" rRemS (tVar i) (tCons te tNil))) (gRem i f) := by
  refine ⟨ps_expr (pe_bm PySem.F.plainAttrs_list PySem.F.slot_list_remove PySem.F.type_list_remove mt_removeS ho (pa_cons he.pe pa_nil hs) (hbase := hbase) (hfew := hfew) (hline := hline) (hs := hs)) hsw, fun H0 d D' ε σ H en q hh => ?_⟩
  obtain ⟨bs, hl, hh⟩ := hh
  obtain ⟨p, xs, h1, h2, h3⟩ := q.own_at hl
  refine ⟨.ref p, h1, .inl ⟨rfl, xs, Or.inl (Or.inl h2)⟩, ?_⟩
  show te σ H _
  refine he.sim.runS en q hh fun x v H1 _ s1 r1 hk => ?_
  obtain ⟨b, rfl, hb, nx⟩ := hk
  obtain rfl := rp_str r1
  obtain ⟨ex, _⟩ := strs_rp (strs_map bs) h3
  have hp : H1 p = some (.lst ((bs.map S).map V.str)) := by rw [← ex]; exact s1 _ _ h2
  obtain ⟨i1, i2, i3⟩ := erase_idx bs b hb
  refine ⟨p, bs.map S, S b, bs.idxOf b, rfl, rfl, hp, by rw [List.getElem?_map, i1]; rfl, fun m hm z => ?_, ?_⟩
  · rw [List.getElem?_map] at z
    cases e : bs[m]? with
    | none => rw [e] at z; cases z
    | some c =>
      rw [e] at z
      have : c = b := S_inj (Option.some.inj z)
      subst this
      exact i2 m hm e
  · refine en.nx _ _ _ ?_ nx
    refine (q.mono s1).change hl h1 (imm_strs _) ?_
    have ee : ((bs.map S).eraseIdx (bs.idxOf b)) = (bs.erase b).map S := by
      rw [← i3]
      have : ∀ (l : List (List Nat)) (j : Nat), (l.map S).eraseIdx j = (l.eraseIdx j).map S := by
        intro l
        induction l with
        | nil => intro j; rfl
        | cons y l ih =>
          intro j
          cases j with
          | zero => rfl
          | succ j => show S y :: (l.map S).eraseIdx j = S y :: (l.eraseIdx j).map S; rw [ih j]
      exact this bs _
    rw [ee]
    generalize bs.erase b = cs
    induction cs with
    | nil => exact .nil
    | cons y cs ih => exact .cons (rps y) ih
end
/-! ### a def keeps its promise -/
def startE (n : Nat) (ds : List D) : Env := ds.map (fun d => some (.fz d)) ++ List.replicate (n - ds.length) none
def ends (F : Res D) : DE := { nx := fun _ => F = .ok .none, rt := fun d => F = .ok d, ex := fun c _ => F = .exc c }
theorem start_sq {K : Fg} {H : Hp} {N : List Str} {ds : List D} {vs : List V} (r : RpAll K H ds vs) (hl : ds.length ≤ N.length) : SQ K H (startE N.length ds) (L2.start N vs) H := by
  refine ⟨⟨[], ?_, fun a ha => by (cases ha), fun i d e => ?_, fun i d e => ?_, fun i j d e _ h1 _ => ?_⟩, ?_⟩
  · intro a o h
    rw [hide_ne (by simp)]
    exact h
  · unfold startE at e
    unfold L2.start
    by_cases hi : i < ds.length
    · rw [List.getElem?_append_left (by rw [List.length_map]; exact hi), List.getElem?_map] at e
      rw [List.getElem?_append_left (by rw [List.length_map, r.length]; exact hi), List.getElem?_map]
      cases q : ds[i]? with
      | none => rw [q] at e; cases e
      | some d' =>
        rw [q] at e
        cases e
        obtain ⟨v, h1, h2⟩ := r.get' q
        rw [h1]
        refine ⟨v, rfl, Rp.mono (fun a o h => ?_) _ _ h2⟩
        rw [hide_ne (by simp)]
        exact h
    · rw [List.getElem?_append_right (by rw [List.length_map]; omega), List.getElem?_replicate] at e
      split at e <;> cases e
  · unfold startE at e
    by_cases hi : i < ds.length
    · rw [List.getElem?_append_left (by rw [List.length_map]; exact hi), List.getElem?_map] at e
      cases q : ds[i]? with
      | none => rw [q] at e; cases e
      | some d' => rw [q] at e; cases e
    · rw [List.getElem?_append_right (by rw [List.length_map]; omega), List.getElem?_replicate] at e
      split at e <;> cases e
  · unfold startE at h1
    by_cases hi : i < ds.length
    · rw [List.getElem?_append_left (by rw [List.length_map]; exact hi), List.getElem?_map] at h1
      cases q : ds[i]? with
      | none => rw [q] at h1; cases h1
      | some d' => rw [q] at h1; cases h1
    · rw [List.getElem?_append_right (by rw [List.length_map]; omega), List.getElem?_replicate] at h1
      split at h1 <;> cases h1
  · unfold L2.start startE
    rw [List.length_append, List.length_append, List.length_map, List.length_map, List.length_replicate, List.length_replicate, r.length]
section
variable {P : Program} {w : World} {K : Fg} {mg : Str → Option Value} {base : Heap} {cl : Nat → Addr}
theorem okD {x qual : Str} {st : Stmt} {f : Addr} {fd : FuncData} {N ps : List Str} {k : Nat} {Fm : List D → Res D} (F : Fun K x qual st f fd) (Sc : FnScope N ps (defScope st)) (hNp : ps.length ≤ N.length)
    (hb : ∀ (cdv : Value) (A : Around) (outer : List PySem.Env) (s : Shared) (H : Hp) (E : XK), Room k (A.deeper (PyProof.Rows.envOfC qual (defScope st) s.heap.objs.size f cdv)) →
      ∃ ts g, QSs (cxOf (L2.CX P w) P w K mg base N qual (defScope st) f cdv A outer s H E) cl (fun cls d _ H => E cls d H) (defBody st) ts g ∧ ∀ ds, ds.length = ps.length → Fm ds ≠ .stuck → g (ends (Fm ds)) (startE N.length ds)) :
    FnOk P w K mg base (L2.CX P w) (k + 1) f fd ps (spD K cl ps.length Fm) := by
  refine F.okX Sc (fun vs H Q E h => spD_len h) (fun cdv A outer s H vs Q E hr h => ?_)
  obtain ⟨ts, g, q, hg⟩ := hb cdv A outer s H E hr
  obtain ⟨ds, r, hl, hh⟩ := h
  refine ⟨ts, q.ps, ?_⟩
  have ne : Fm ds ≠ .stuck := fun z => by rw [z] at hh; exact hh
  refine q.sim H (ends (Fm ds)) _ _ _ H ⟨fun ε σ H' sq e => ?_, fun d v H' sm rp fr e => ?_, fun c ε σ H' sq e => ?_, fun _ _ _ _ z => z.elim, fun _ _ _ _ z => z.elim⟩ (start_sq r (by rw [hl]; exact hNp)) (hg ds hl ne)
  · have e : Fm ds = .ok .none := e
    rw [e] at hh
    exact hh .non H' sq.1.same rpn (fresh_no rfl)
  · have e : Fm ds = .ok d := e
    rw [e] at hh
    exact hh v H' sm rp fr
  · have e : Fm ds = .exc c := e
    rw [e] at hh
    exact hh H' sq.1.same
/-- a def that nothing leaves but by its end -/
theorem okD0 {x qual : Str} {st : Stmt} {f : Addr} {fd : FuncData} {N ps : List Str} {k : Nat} {Fm : List D → Res D} (F : Fun K x qual st f fd) (Sc : FnScope N ps (defScope st)) (hNp : ps.length ≤ N.length) (hno : ∀ ds c, Fm ds ≠ .exc c)
    (hb : ∀ (cdv : Value) (A : Around) (outer : List PySem.Env) (s : Shared) (H : Hp) (E : XK), Room k (A.deeper (PyProof.Rows.envOfC qual (defScope st) s.heap.objs.size f cdv)) →
      ∃ ts g, QSs (cxOf CX0 P w K mg base N qual (defScope st) f cdv A outer s H E).nox cl W0 (defBody st) ts g ∧ ∀ ds, ds.length = ps.length → Fm ds ≠ .stuck → g (ends (Fm ds)) (startE N.length ds)) :
    FnOk P w K mg base CX0 (k + 1) f fd ps (spD K cl ps.length Fm) := by
  refine F.ok Sc (fun vs H Q E h => spD_len h) (fun cdv A outer s H vs Q E hr h => ?_)
  obtain ⟨ts, g, q, hg⟩ := hb cdv A outer s H E hr
  obtain ⟨ds, r, hl, hh⟩ := h
  refine ⟨ts, q.ps, ?_⟩
  have ne : Fm ds ≠ .stuck := fun z => by rw [z] at hh; exact hh
  refine q.sim H (ends (Fm ds)) _ _ _ H ⟨fun ε σ H' sq e => ?_, fun d v H' sm rp fr e => ?_, fun c ε σ H' sq e => (hno ds c e).elim, fun _ _ _ _ z => z.elim, fun _ _ _ _ z => z.elim⟩ (start_sq r (by rw [hl]; exact hNp)) (hg ds hl ne)
  · have e : Fm ds = .ok .none := e
    rw [e] at hh
    exact hh .non H' sq.1.same rpn (fresh_no rfl)
  · have e : Fm ds = .ok d := e
    rw [e] at hh
    exact hh v H' sm rp fr
end
end DL
namespace DL
open PySem L2
theorem hu64 {A : Around} {k : Nat} (hr : Room k A) : A.units + 64 < cLine := by have := hr.un; omega
/-- a def that keeps the promise F, by its name -/
def Cal (P : Program) (w : World) (K : Fg) (mg : Str → Option Value) (base : Heap) (cl : Nat → Addr) (k : Nat) (x : Str) (n : Nat) (F : List D → Res D) : Prop := ∃ f fd ps, FnOk P w K mg base (L2.CX P w) k f fd ps (spD K cl n F) ∧ mg x = some (.ref f) ∧ PySem.W.keepIn K (.ref f) = true ∧ Binds K fd ps []
/-- an own exception class -/
structure ExcT (K : Fg) (mg : Str → Option Value) (x : Str) (C : Addr) : Prop where
  g : mg x = some (.ref C)
  x : PySem.W.excIn K C [.type "ValueError", .type "Exception", .type "BaseException", .type "object"] "ValueError.__new__" = true
  k : PySem.W.keepIn K (.ref C) = true
  b : PySem.W.subIn K (.ref C) (.type "BaseException") = some true
  t : PySem.W.typeIn K (.ref C) = some (.type "type")
section
variable {X : Cx} {cl : Nat → Addr} {W : WX}
theorem q_fn {k n : Nat} {x : Str} {F : List D → Res D} {e : Expr} {es : List Expr} {p pos : Pos} {tr : TA} {gs : Dv → Res (List D)} (C : Cal X.prog X.w X.K X.mg X.base cl k x n F) (hr : Room k X.A) (tk : Takes X W) (ha : QA X cl W (e :: es) tr gs) (hg : Gl X x := by rfl)
    (hdb : (x == ("__debug__" : Str)) = false := by decide) (he : starEach (e :: es) X.env = (false, eval e X.env) :: starEach es X.env := by rfl) (hpl : (backTo pos (starEach es X.env)).any (·.1) = false := by rfl) :
    QF X cl W (.Call (.Name x p) (e :: es) [] pos) (tCallS (spD X.K cl n F) (WE W) tr) (dCall n F gs) := by
  obtain ⟨f, fd, ps, G, hm, hk, hb⟩ := C
  exact q_call G hr hg hm hk hb (fun σ => passAt tk σ) ha hdb he hpl
theorem s_raiseX {n j : Nat} {x m : Str} {p p2 pos pos2 : Pos} (T : ExcT X.K X.mg x (cl n)) (hc : X.calm = true) (tk : Takes X W) (hg : Gl X x := by rfl) (hdb : (x == ("__debug__" : Str)) = false := by decide) :
    QS X cl W (.Raise (some (.Call (.Name x p) [.Constant (.str m) j p2] [] pos)) none pos2) (fun _ σ H => (fun (_ : L2.St) (H : Hp) (Q : XK) => Q (.ref (cl n)) none H) σ H fun cls d H' => W cls d σ H') (fun d ε => d.ex n ε) :=
  s_raise (t0 := fun _ H Q => Q (.ref (cl n)) none H) (ps_raise hc tk (pmk_own PySem.F.excBase_ValueError T.x T.g T.k (raises_own T.b T.t) hg hdb)) (fun _ _ _ h => h)
variable {elt tg iter : Expr} {ifs : List Expr} {scope : Scope} {own : List (Str × Nat)} {pos : Pos} {wi : TI} {fi : Dv → Res (List D)} {k : D → Dv → Option Dv} {ft : Dv → Res Bool} {fe : Dv → Res D}
theorem s_setLc {T : TE} {G : Dv → Res D} {i : Nat} {st : Stmt} (h : PS X st (tAsg T (gName i)) ∧ SimF X.K cl W T G) : QS X cl W st (tAsg T (gName i)) (gSet i G) := ⟨h.1, set_sim h.2⟩
theorem s_ownLc {T : TE} {G : Dv → Res D} {i : Nat} {st : Stmt} (h : PS X st (tAsg T (gName i)) ∧ SimF X.K cl W T G) : QS X cl W st (tAsg T (gName i)) (gOwn i G) := ⟨h.1, own_sim h.2⟩
end
end DL
namespace DL
open PySem L2
/-! ### the operations, by the kinds of their data -/
section
@[simp] theorem oAdd_ii (i j : Int) : oAdd (.int i) (.int j) = .ok (.int (i + j)) := rfl
@[simp] theorem oAdd_ss (x y : List Nat) : oAdd (.str x) (.str y) = Res.need (x.length + y.length ≤ big) (.ok (.str (x ++ y))) := rfl
@[simp] theorem oAdd_tt (x y : List D) : oAdd (.tuple x) (.tuple y) = Res.need (x.length + y.length ≤ big) (.ok (.tuple (x ++ y))) := rfl
@[simp] theorem oAdd_ll (x y : List D) : oAdd (.list x) (.list y) = Res.need (x.length + y.length ≤ big) (.ok (.list (x ++ y))) := rfl
@[simp] theorem oSub_ii (i j : Int) : oSub (.int i) (.int j) = .ok (.int (i - j)) := rfl
@[simp] theorem oMul_ii (i j : Int) : oMul (.int i) (.int j) = Res.need (smallI i ∨ smallI j) (.ok (.int (i * j))) := rfl
@[simp] theorem oMul_li (l : List D) (k : Int) : oMul (.list l) (.int k) = Res.need (0 ≤ k ∧ k.natAbs ≤ 1000 ∧ l.length ≤ 1000) (.ok (.list (List.replicate k.toNat l).flatten)) := rfl
@[simp] theorem oMod_ii (i j : Int) : oMod (.int i) (.int j) = Res.need (0 < j) (.ok (.int (i % j))) := rfl
@[simp] theorem oDiv_ii (i j : Int) : oDiv (.int i) (.int j) = Res.need (0 < j ∧ j.natAbs ≤ big) (.ok (.int (i / j))) := rfl
@[simp] theorem oCmp_ii (p : Int → Int → Bool) (q : List Nat → List Nat → Bool) (i j : Int) : oCmp p q (.int i) (.int j) = .ok (.bool (p i j)) := rfl
@[simp] theorem oCmp_ss (p : Int → Int → Bool) (q : List Nat → List Nat → Bool) (i j : List Nat) : oCmp p q (.str i) (.str j) = .ok (.bool (q i j)) := rfl
@[simp] theorem oEqB_ii (i j : Int) : oEqB (.int i) (.int j) = .ok (decide (i = j)) := rfl
@[simp] theorem oEqB_ss (i j : List Nat) : oEqB (.str i) (.str j) = .ok (decide (i = j)) := rfl
@[simp] theorem oEqB_bb (i j : Bool) : oEqB (.bool i) (.bool j) = .ok (decide (i = j)) := rfl
@[simp] theorem oEqB_nn  : oEqB (.none) (.none) = .ok (true) := rfl
@[simp] theorem oEqB_ni (i : Int) : oEqB (.none) (.int i) = .ok (false) := rfl
@[simp] theorem oEqB_in (i : Int) : oEqB (.int i) (.none) = .ok (false) := rfl
@[simp] theorem oEqB_ns (i : List Nat) : oEqB (.none) (.str i) = .ok (false) := rfl
@[simp] theorem oEqB_sn (i : List Nat) : oEqB (.str i) (.none) = .ok (false) := rfl
@[simp] theorem oEqB_is (i : Int) (j : List Nat) : oEqB (.int i) (.str j) = .ok (false) := rfl
@[simp] theorem oEqB_si (i : Int) (j : List Nat) : oEqB (.str j) (.int i) = .ok (false) := rfl
@[simp] theorem oEqB_tt (x y : List D) : oEqB (.tuple x) (.tuple y) = Res.need (shp 10 (.tuple x) = true ∧ shp 10 (.tuple y) = true) (.ok (deq (.tuple x) (.tuple y))) := rfl
@[simp] theorem oEqB_ll (x y : List D) : oEqB (.list x) (.list y) = Res.need (shp 10 (.list x) = true ∧ shp 10 (.list y) = true) (.ok (deq (.list x) (.list y))) := rfl
@[simp] theorem oEqB_nt (y : List D) : oEqB (.none) (.tuple y) = Res.need (shp 10 (.none) = true ∧ shp 10 (.tuple y) = true) (.ok (deq (.none) (.tuple y))) := rfl
@[simp] theorem oEqB_tn (x : List D) : oEqB (.tuple x) (.none) = Res.need (shp 10 (.tuple x) = true ∧ shp 10 (.none) = true) (.ok (deq (.tuple x) (.none))) := rfl
@[simp] theorem oEqB_st (x : List Nat) (y : List D) : oEqB (.str x) (.tuple y) = Res.need (shp 10 (.str x) = true ∧ shp 10 (.tuple y) = true) (.ok (deq (.str x) (.tuple y))) := rfl
@[simp] theorem oEqB_ts (x : List Nat) (y : List D) : oEqB (.tuple y) (.str x) = Res.need (shp 10 (.tuple y) = true ∧ shp 10 (.str x) = true) (.ok (deq (.tuple y) (.str x))) := rfl
@[simp] theorem oInB_ss (c : Nat) (z : List Nat) : oInB (.str [c]) (.str z) = .ok (decide (c ∈ z)) := rfl
@[simp] theorem oIx_ti (l : List D) (i : Int) : oIx (.tuple l) (.int i) = ofO (atI l i) := rfl
@[simp] theorem oIx_li (l : List D) (i : Int) : oIx (.list l) (.int i) = ofO (atI l i) := rfl
@[simp] theorem oIx_si (l : List Nat) (i : Int) : oIx (.str l) (.int i) = Res.need (l.length ≤ big) (ofO ((atI l i).map fun c => .str [c])) := rfl
@[simp] theorem oIx_ci (l : List Int) (i : Int) : oIx (.scr l) (.int i) = ofO ((atI l i).map fun c => .int c) := rfl
@[simp] theorem isBox_n  : isBox (.none) = false := rfl
@[simp] theorem noBox_n  : noBox (.ok (.none)) = .ok (.none) := rfl
@[simp] theorem ofO_n  : ofO (some (.none)) = .ok (.none) := rfl
@[simp] theorem isBox_b (b : Bool) : isBox (.bool b) = false := rfl
@[simp] theorem noBox_b (b : Bool) : noBox (.ok (.bool b)) = .ok (.bool b) := rfl
@[simp] theorem ofO_b (b : Bool) : ofO (some (.bool b)) = .ok (.bool b) := rfl
@[simp] theorem isBox_i (i : Int) : isBox (.int i) = false := rfl
@[simp] theorem noBox_i (i : Int) : noBox (.ok (.int i)) = .ok (.int i) := rfl
@[simp] theorem ofO_i (i : Int) : ofO (some (.int i)) = .ok (.int i) := rfl
@[simp] theorem isBox_s (l : List Nat) : isBox (.str l) = false := rfl
@[simp] theorem noBox_s (l : List Nat) : noBox (.ok (.str l)) = .ok (.str l) := rfl
@[simp] theorem ofO_s (l : List Nat) : ofO (some (.str l)) = .ok (.str l) := rfl
@[simp] theorem isBox_t (l : List D) : isBox (.tuple l) = false := rfl
@[simp] theorem noBox_t (l : List D) : noBox (.ok (.tuple l)) = .ok (.tuple l) := rfl
@[simp] theorem ofO_t (l : List D) : ofO (some (.tuple l)) = .ok (.tuple l) := rfl
@[simp] theorem isBox_l (l : List D) : isBox (.list l) = true := rfl
@[simp] theorem imm_n  : imm (.none) = true := rfl
@[simp] theorem calm_n  : calm (.none) = true := rfl
@[simp] theorem imm_b (b : Bool) : imm (.bool b) = true := rfl
@[simp] theorem calm_b (b : Bool) : calm (.bool b) = true := rfl
@[simp] theorem imm_i (i : Int) : imm (.int i) = true := rfl
@[simp] theorem calm_i (i : Int) : calm (.int i) = true := rfl
@[simp] theorem imm_s (l : List Nat) : imm (.str l) = true := rfl
@[simp] theorem calm_s (l : List Nat) : calm (.str l) = true := rfl
@[simp] theorem imm_t (l : List D) : imm (.tuple l) = immAll l := rfl
@[simp] theorem calm_t (l : List D) : calm (.tuple l) = immAll l := rfl
@[simp] theorem calm_l (l : List D) : calm (.list l) = immAll l := rfl
@[simp] theorem immAll_nil  : immAll [] = true := rfl
@[simp] theorem immAll_cons (d : D) (l : List D) : immAll (d :: l) = (imm d && immAll l) := rfl
@[simp] theorem truth_n  : truth .none = .ok false := rfl
@[simp] theorem truth_b (b : Bool) : truth (.bool b) = .ok b := rfl
@[simp] theorem truth_i (i : Int) : truth (.int i) = .ok (i != 0) := rfl
@[simp] theorem truth_s (l : List Nat) : truth (.str l) = Res.need (l.length ≤ big) (.ok (!l.isEmpty)) := rfl
@[simp] theorem truth_l (l : List D) : truth (.list l) = .ok (!l.isEmpty) := rfl
@[simp] theorem truth_t (l : List D) : truth (.tuple l) = .ok (!l.isEmpty) := rfl
@[simp] theorem asB_b (b : Bool) : asB (.bool b) = .ok b := rfl
@[simp] theorem asS_s (l : List Nat) : asS (.str l) = .ok l := rfl
@[simp] theorem asI_i (i : Int) : asI (.int i) = .ok i := rfl
@[simp] theorem cLen_s (l : List Nat) : cLen [.str l] = Res.need (l.length ≤ big) (.ok (.int l.length)) := rfl
@[simp] theorem cLen_l (l : List D) : cLen [.list l] = .ok (.int l.length) := rfl
@[simp] theorem cLen_t (l : List D) : cLen [.tuple l] = .ok (.int l.length) := rfl
@[simp] theorem cLen_c (l : List Int) : cLen [.scr l] = .ok (.int l.length) := rfl
@[simp] theorem cMin_ii (i j : Int) : cMin [.int i, .int j] = .ok (.int (if j < i then j else i)) := rfl
@[simp] theorem cMax_ii (i j : Int) : cMax [.int i, .int j] = .ok (.int (if j > i then j else i)) := rfl
@[simp] theorem cInt_i (i : Int) : cInt [.int i] = .ok (.int i) := rfl
@[simp] theorem cInt_b (b : Bool) : cInt [.bool b] = .ok (.int (if b then 1 else 0)) := rfl
@[simp] theorem mIndex_s (l : List Nat) (c : Nat) : mIndex l (.str [c]) = Res.need (c ∈ l) (.ok (.int (l.idxOf c : Nat))) := rfl
@[simp] theorem oNeg_i (i : Int) : oNeg (.int i) = .ok (.int (-i)) := rfl
@[simp] theorem oSl_s (l : List Nat) (lo hi : Option Int) : oSl (.str l) lo hi = Res.need (l.length ≤ big) (.ok (.str (cutL l lo hi))) := rfl
@[simp] theorem oSl_t (l : List D) (lo hi : Option Int) : oSl (.tuple l) lo hi = .ok (.tuple (cutL l lo hi)) := rfl
@[simp] theorem oSl_l (l : List D) (lo hi : Option Int) : oSl (.list l) lo hi = .ok (.list (cutL l lo hi)) := rfl
@[simp] theorem items_s (l : List Nat) : items (.str l) = .ok (l.map fun c => .str [c]) := rfl
@[simp] theorem items_t (l : List D) : items (.tuple l) = .ok l := rfl
@[simp] theorem items_l (l : List D) : items (.list l) = .ok l := rfl
@[simp] theorem itemsF_s (l : List Nat) : itemsF (.str l) = .ok (l.map fun c => .str [c]) := rfl
@[simp] theorem itemsF_t (l : List D) : itemsF (.tuple l) = Res.need (immAll l = true) (.ok l) := rfl
@[simp] theorem itemsF_l (l : List D) : itemsF (.list l) = Res.need (immAll l = true) (.ok l) := rfl
@[simp] theorem Sl_fz (d : D) : (Sl.fz d).d = d := rfl
@[simp] theorem Sl_ow (d : D) : (Sl.ow d).d = d := rfl
@[simp] theorem cTuple_l (l : List D) : cTuple [.list l] = .ok (.tuple l) := rfl
@[simp] theorem cTuple_t (l : List D) : cTuple [.tuple l] = .ok (.tuple l) := rfl
@[simp] theorem iR1_i (j : Int) : iR1 [.int j] = Res.need (j.natAbs ≤ big) (.ok (rng 0 j.toNat)) := rfl
@[simp] theorem iR2_ii (i j : Int) : iR2 [.int i, .int j] = Res.need (i.natAbs ≤ big ∧ j.natAbs ≤ big) (.ok (rng i (j - i).toNat)) := rfl
@[simp] theorem oRevS_s (g : List Nat → List Nat) (l : List Nat) : oRevS g (.str l) = Res.need (l.length ≤ big) (.ok (.str (g l))) := rfl
end
/-! ### loops, by what holds between the turns -/
theorem need_ok {α : Type} {c : Prop} [Decidable c] (h : c) (r : Res α) : Res.need c r = r := if_pos h
/-! ### one statement after the other -/
section
variable {g k : DS} {d : DE} {ε : Env} {f h : Dv → Res D} {fb : Dv → Res Bool} {i j : Nat} {x y : D}
theorem st_seq (h : g { d with nx := k d } ε) : gSeq g k d ε := h
theorem st_set (x : D) (e : f (view ε) = .ok x) (hi : i < ε.length) (hc : calm x = true) (hn : d.nx (ε.set i (some (.fz x)))) : gSet i f d ε := by
  unfold gSet
  rw [e]
  exact ⟨hi, hc, hn⟩
theorem st_own (x : D) (e : f (view ε) = .ok x) (hi : i < ε.length) (hb : isBox x = true) (hs : notScr x = true) (hc : calm x = true) (hn : d.nx (ε.set i (some (.ow x)))) : gOwn i f d ε := by
  unfold gOwn
  rw [e]
  exact ⟨hi, hb, hs, hc, hn⟩
theorem st_par (m n : Bool) (x y : D) (e : f (view ε) = .ok x) (e2 : h (view ε) = .ok y) (hi : i < ε.length) (hj : j < ε.length) (o1 : okM m x) (o2 : okM n y) (hn : d.nx ((ε.set i (mk m x)).set j (mk n y))) : gPar i j m n f h d ε := by
  unfold gPar
  rw [e]
  show (h (view ε)).on _ _
  rw [e2]
  exact ⟨⟨hi, hj, o1, o2⟩, hn⟩
theorem st_ift (e : fb (view ε) = .ok true) (hn : g d ε) : gIf fb g k d ε := by
  unfold gIf
  rw [e]
  exact hn
theorem st_iff (e : fb (view ε) = .ok false) (hn : k d ε) : gIf fb g k d ε := by
  unfold gIf
  rw [e]
  exact hn
/-- an if that has no else, its test not true -/
theorem st_no (e : fb (view ε) = .ok false) (hn : d.nx ε) : gIf fb g gNext d ε := st_iff e hn
theorem st_ret (x : D) (e : f (view ε) = .ok x) (hn : d.rt x) : gRet f d ε := by
  unfold gRet
  rw [e]
  exact hn
theorem st_drop (x : D) (e : f (view ε) = .ok x) (hn : d.nx ε) : gDrop f d ε := by
  unfold gDrop
  rw [e]
  exact hn
theorem st_app (l : List D) (x : D) (hl : ε[i]? = some (some (.ow (.list l)))) (im : immAll l = true) (e : f (view ε) = .ok x) (ix : imm x = true) (hz : l.length < big) (hn : d.nx (ε.set i (some (.ow (.list (l ++ [x])))))) : gApp i f d ε := by
  refine ⟨l, hl, im, ?_⟩
  rw [e]
  exact ⟨ix, hz, hn⟩
theorem st_ext (l m : List D) (hl : ε[i]? = some (some (.ow (.list l)))) (im : immAll l = true) (e : f (view ε) = .ok (.list m)) (ix : immAll m = true) (hz : l.length + m.length ≤ big) (hn : d.nx (ε.set i (some (.ow (.list (l ++ m)))))) : gExt i f d ε := by
  refine ⟨l, hl, im, ?_⟩
  rw [e]
  exact ⟨m, rfl, ix, hz, hn⟩
theorem st_rem (bs : List (List Nat)) (b : List Nat) (hl : ε[i]? = some (some (.ow (.list (bs.map D.str))))) (e : f (view ε) = .ok (.str b)) (hb : b ∈ bs) (hn : d.nx (ε.set i (some (.ow (.list ((bs.erase b).map D.str)))))) : gRem i f d ε := by
  refine ⟨bs, hl, ?_⟩
  rw [e]
  exact ⟨b, rfl, hb, hn⟩
variable {q : DS}
theorem sq_set (x : D) (e : f (view ε) = .ok x) (hi : i < ε.length) (hc : calm x = true) (hn : q d (ε.set i (some (.fz x)))) : gSeq (gSet i f) q d ε := st_set (d := { d with nx := q d }) x e hi hc hn
theorem sq_own (x : D) (e : f (view ε) = .ok x) (hi : i < ε.length) (hb : isBox x = true) (hs : notScr x = true) (hc : calm x = true) (hn : q d (ε.set i (some (.ow x)))) : gSeq (gOwn i f) q d ε := st_own (d := { d with nx := q d }) x e hi hb hs hc hn
theorem sq_par (m n : Bool) (x y : D) (e : f (view ε) = .ok x) (e2 : h (view ε) = .ok y) (hi : i < ε.length) (hj : j < ε.length) (o1 : okM m x) (o2 : okM n y) (hn : q d ((ε.set i (mk m x)).set j (mk n y))) : gSeq (gPar i j m n f h) q d ε := st_par (d := { d with nx := q d }) m n x y e e2 hi hj o1 o2 hn
theorem sq_ift (e : fb (view ε) = .ok true) (hn : g { d with nx := q d } ε) : gSeq (gIf fb g k) q d ε := st_ift (d := { d with nx := q d }) e hn
theorem sq_iff (e : fb (view ε) = .ok false) (hn : k { d with nx := q d } ε) : gSeq (gIf fb g k) q d ε := st_iff (d := { d with nx := q d }) e hn
theorem sq_no (e : fb (view ε) = .ok false) (hn : q d ε) : gSeq (gIf fb g gNext) q d ε := st_iff (d := { d with nx := q d }) e hn
theorem sq_drop (x : D) (e : f (view ε) = .ok x) (hn : q d ε) : gSeq (gDrop f) q d ε := st_drop (d := { d with nx := q d }) x e hn
theorem sq_app (l : List D) (x : D) (hl : ε[i]? = some (some (.ow (.list l)))) (im : immAll l = true) (e : f (view ε) = .ok x) (ix : imm x = true) (hz : l.length < big) (hn : q d (ε.set i (some (.ow (.list (l ++ [x])))))) : gSeq (gApp i f) q d ε := st_app (d := { d with nx := q d }) l x hl im e ix hz hn
theorem sq_ext (l m : List D) (hl : ε[i]? = some (some (.ow (.list l)))) (im : immAll l = true) (e : f (view ε) = .ok (.list m)) (ix : immAll m = true) (hz : l.length + m.length ≤ big) (hn : q d (ε.set i (some (.ow (.list (l ++ m)))))) : gSeq (gExt i f) q d ε := st_ext (d := { d with nx := q d }) l m hl im e ix hz hn
theorem sq_rem (bs : List (List Nat)) (b : List Nat) (hl : ε[i]? = some (some (.ow (.list (bs.map D.str))))) (e : f (view ε) = .ok (.str b)) (hb : b ∈ bs) (hn : q d (ε.set i (some (.ow (.list ((bs.erase b).map D.str)))))) : gSeq (gRem i f) q d ε := st_rem (d := { d with nx := q d }) bs b hl e hb hn
end
theorem for_str {i : Nat} {k : D → Env → Option Env} {g : DS} {d : DE} {ε : Env} {w : List Nat} (h : ε[i]? = some (some (.fz (.str w)))) (I : Nat → Env → Prop) (h0 : I 0 ε)
    (hs : ∀ (j : Nat) (c : Nat) (ε' : Env), w[j]? = some c → I j ε' → ∃ ε2, k (.str [c]) ε' = some ε2 ∧ g { d with nx := I (j + 1), ct := I (j + 1), bk := d.nx } ε2) (hd : ∀ ε', I w.length ε' → d.nx ε') : gForN i k g d ε := by
  refine ⟨.str w, h, I, h0, fun j x ε' hx hi => ?_, fun ε' hi => hd ε' ?_⟩
  · rw [List.getElem?_map] at hx
    cases e : w[j]? with
    | none => rw [e] at hx; cases hx
    | some c =>
      rw [e] at hx
      cases hx
      exact ⟨rfl, hs j c ε' e hi⟩
  · rw [List.length_map] at hi
    exact hi
/-- .. the same at every turn -/
theorem for_strA {i : Nat} {k : D → Env → Option Env} {g : DS} {d : DE} {ε : Env} {w : List Nat} (h : ε[i]? = some (some (.fz (.str w)))) (I : Env → Prop) (h0 : I ε)
    (hs : ∀ (c : Nat) (ε' : Env), c ∈ w → I ε' → ∃ ε2, k (.str [c]) ε' = some ε2 ∧ g { d with nx := I, ct := I, bk := d.nx } ε2) (hd : ∀ ε', I ε' → d.nx ε') : gForN i k g d ε :=
  for_str h (fun _ => I) h0 (fun j c ε' hc hi => hs c ε' (List.mem_of_getElem? hc) hi) hd
/-- a for over what comes to the data xs -/
theorem for_any {f : Dv → Res (List D)} {k : D → Env → Option Env} {g : DS} {d : DE} {ε : Env} {xs : List D} (h : f (view ε) = .ok xs) (I : Nat → Env → Prop) (h0 : I 0 ε)
    (hs : ∀ (j : Nat) (x : D) (ε' : Env), xs[j]? = some x → I j ε' → imm x = true ∧ ∃ ε2, k x ε' = some ε2 ∧ g { d with nx := I (j + 1), ct := I (j + 1), bk := d.nx } ε2) (hd : ∀ ε', I xs.length ε' → d.nx ε') : gFor f k g d ε := by
  unfold gFor
  rw [h]
  exact ⟨I, h0, hs, hd⟩
theorem for_rng {f : Dv → Res (List D)} {k : D → Env → Option Env} {g : DS} {d : DE} {ε : Env} {lo : Int} {n : Nat} (h : f (view ε) = .ok (rng lo n)) (I : Nat → Env → Prop) (h0 : I 0 ε)
    (hs : ∀ (j : Nat) (ε' : Env), j < n → I j ε' → ∃ ε2, k (.int (lo + (j : Int))) ε' = some ε2 ∧ g { d with nx := I (j + 1), ct := I (j + 1), bk := d.nx } ε2) (hd : ∀ ε', I n ε' → d.nx ε') : gFor f k g d ε := by
  refine for_any h I h0 (fun j x ε' hx hi => ?_) (fun ε' hi => hd ε' (by rw [rng_len] at hi; exact hi))
  have hj : j < n := by
    rcases Nat.lt_or_ge j n with q | q
    · exact q
    · rw [List.getElem?_eq_none (by rw [rng_len]; exact q)] at hx; cases hx
  rw [rng_get hj] at hx
  cases hx
  exact ⟨rfl, hs j ε' hj hi⟩
/-! .. a for with more behind it -/
theorem sq_str {i : Nat} {k : D → Env → Option Env} {g q : DS} {d : DE} {ε : Env} {w : List Nat} (h : ε[i]? = some (some (.fz (.str w)))) (I : Nat → Env → Prop) (h0 : I 0 ε)
    (hs : ∀ (j : Nat) (c : Nat) (ε' : Env), w[j]? = some c → I j ε' → ∃ ε2, k (.str [c]) ε' = some ε2 ∧ g { nx := I (j + 1), rt := d.rt, ex := d.ex, bk := q d, ct := I (j + 1) } ε2) (hd : ∀ ε', I w.length ε' → q d ε') : gSeq (gForN i k g) q d ε :=
  for_str (d := { d with nx := q d }) h I h0 hs hd
theorem sq_strA {i : Nat} {k : D → Env → Option Env} {g q : DS} {d : DE} {ε : Env} {w : List Nat} (h : ε[i]? = some (some (.fz (.str w)))) (I : Env → Prop) (h0 : I ε)
    (hs : ∀ (c : Nat) (ε' : Env), c ∈ w → I ε' → ∃ ε2, k (.str [c]) ε' = some ε2 ∧ g { nx := I, rt := d.rt, ex := d.ex, bk := q d, ct := I } ε2) (hd : ∀ ε', I ε' → q d ε') : gSeq (gForN i k g) q d ε :=
  for_strA (d := { d with nx := q d }) h I h0 hs hd
theorem sq_any {f : Dv → Res (List D)} {k : D → Env → Option Env} {g q : DS} {d : DE} {ε : Env} (xs : List D) (h : f (view ε) = .ok xs) (I : Nat → Env → Prop) (h0 : I 0 ε)
    (hs : ∀ (j : Nat) (x : D) (ε' : Env), xs[j]? = some x → I j ε' → imm x = true ∧ ∃ ε2, k x ε' = some ε2 ∧ g { nx := I (j + 1), rt := d.rt, ex := d.ex, bk := q d, ct := I (j + 1) } ε2) (hd : ∀ ε', I xs.length ε' → q d ε') : gSeq (gFor f k g) q d ε :=
  for_any (d := { d with nx := q d }) h I h0 hs hd
theorem sq_rng {f : Dv → Res (List D)} {k : D → Env → Option Env} {g q : DS} {d : DE} {ε : Env} (lo : Int) (n : Nat) (h : f (view ε) = .ok (rng lo n)) (I : Nat → Env → Prop) (h0 : I 0 ε)
    (hs : ∀ (j : Nat) (ε' : Env), j < n → I j ε' → ∃ ε2, k (.int (lo + (j : Int))) ε' = some ε2 ∧ g { nx := I (j + 1), rt := d.rt, ex := d.ex, bk := q d, ct := I (j + 1) } ε2) (hd : ∀ ε', I n ε' → q d ε') : gSeq (gFor f k g) q d ε :=
  for_rng (d := { d with nx := q d }) h I h0 hs hd
/-- a comprehension whose every item gives one datum -/
theorem compM_map {f : D → Res (List D)} {h : D → D} : ∀ {l : List D}, (∀ x ∈ l, f x = .ok [h x]) → compM f l = .ok (l.map h)
  | [], _ => rfl
  | x :: l, hf => by
    show (f x).bind _ = _
    rw [hf x List.mem_cons_self, Res.ok_bind, compM_map fun y hy => hf y (List.mem_cons_of_mem _ hy)]
    rfl
theorem compM_filter {f : D → Res (List D)} {p : D → Bool} {h : D → D} : ∀ {l : List D}, (∀ x ∈ l, f x = .ok (if p x = true then [h x] else [])) → compM f l = .ok ((l.filter p).map h)
  | [], _ => rfl
  | x :: l, hf => by
    show (f x).bind _ = _
    rw [hf x List.mem_cons_self, Res.ok_bind, compM_filter fun y hy => hf y (List.mem_cons_of_mem _ hy), Res.ok_bind]
    by_cases hp : p x = true
    · rw [if_pos hp, List.filter_cons_of_pos hp]; rfl
    · rw [if_neg hp, List.filter_cons_of_neg hp]; rfl
theorem bools_map {α : Type} (l : List α) (p : α → Bool) : bools (l.map fun x => D.bool (p x)) = some (l.map p) := by
  induction l with
  | nil => rfl
  | cons x l ih =>
    show (bools (l.map fun x => D.bool (p x))).map (p x :: ·) = some (p x :: l.map p)
    rw [ih]
    rfl
theorem cAny_map {α : Type} (l : List α) (p : α → Bool) : cAny [.list (l.map fun x => D.bool (p x))] = .ok (.bool (l.any p)) := by
  have e : cAny [.list (l.map fun x => D.bool (p x))] = match bools (l.map fun x => D.bool (p x)) with
    | some bs => .ok (.bool (bs.any id))
    | none => .stuck := rfl
  rw [e, bools_map]
  show Res.ok (D.bool ((l.map p).any id)) = _
  rw [List.any_map]
  rfl
theorem cAll_map {α : Type} (l : List α) (p : α → Bool) : cAll [.list (l.map fun x => D.bool (p x))] = .ok (.bool (l.all p)) := by
  have e : cAll [.list (l.map fun x => D.bool (p x))] = match bools (l.map fun x => D.bool (p x)) with
    | some bs => .ok (.bool (bs.all id))
    | none => .stuck := rfl
  rw [e, bools_map]
  show Res.ok (D.bool ((l.map p).all id)) = _
  rw [List.all_map]
  rfl
/-! ### sorted texts of one sign -/
def signs (l : List Nat) : List D := l.map fun c => .str [c]
def sortN (l : List Nat) : List Nat := l.mergeSort fun a b => decide (a ≤ b)
theorem sortD_signs (l : List Nat) : sortD (signs l) = signs (sortN l) := by
  unfold sortD signs sortN
  symm
  refine List.map_mergeSort (f := fun c : Nat => D.str [c]) (r := fun a b => decide (a ≤ b)) (s := fun a b => PySem.W.dataLe false toPy a b) fun a _ b _ => ?_
  have e : PySem.W.dataLe false toPy (D.str [a]) (D.str [b]) = PySem.W.dataLe false (fun c : Nat => PyData.str (S [c])) a b := rfl
  rw [e, PySem.W.dataLe_str]
  show decide (a ≤ b) = decide ([a] ≤ [b])
  by_cases h : a ≤ b
  · rw [decide_eq_true h, decide_eq_true]
    show ¬ [b] < [a]
    intro z
    rcases List.cons_lt_cons_iff.mp z with z | ⟨_, z⟩
    · exact absurd z (Nat.not_lt.mpr h)
    · exact List.not_lt_nil _ z
  · rw [decide_eq_false h, decide_eq_false]
    show ¬ ¬ [b] < [a]
    intro z
    exact z (List.cons_lt_cons_iff.mpr (.inl (Nat.lt_of_not_le h)))
theorem sortN_perm (l : List Nat) : (sortN l).Perm l := List.mergeSort_perm ..
theorem sortN_eq {l m : List Nat} : sortN l = sortN m ↔ l.Perm m := by
  constructor
  · intro h
    exact (sortN_perm l).symm.trans (h ▸ sortN_perm m)
  · intro h
    have p : (sortN l).Perm (sortN m) := (sortN_perm l).trans (h.trans (sortN_perm m).symm)
    have s1 : (sortN l).Pairwise (fun a b => a ≤ b) := by
      have := List.pairwise_mergeSort (le := fun a b => decide (a ≤ b)) (fun a b c h1 h2 => by simp at *; omega) (fun a b => by simp; omega) l
      simpa [sortN] using this
    have s2 : (sortN m).Pairwise (fun a b => a ≤ b) := by
      have := List.pairwise_mergeSort (le := fun a b => decide (a ≤ b)) (fun a b c h1 h2 => by simp at *; omega) (fun a b => by simp; omega) m
      simpa [sortN] using this
    exact p.eq_of_pairwise (fun a b _ _ h1 h2 => Nat.le_antisymm h1 h2) s1 s2
theorem deq_signs : ∀ (l m : List Nat), deq (.list (signs l)) (.list (signs m)) = decide (l = m) := by
  have key : ∀ (l m : List Nat), PyData.eqvAll (toPyAll (signs l)) (toPyAll (signs m)) = decide (l = m) := by
    intro l
    induction l with
    | nil => intro m; cases m <;> simp [signs, toPyAll, PyData.eqvAll]
    | cons a l ih =>
      intro m
      cases m with
      | nil => simp [signs, toPyAll, PyData.eqvAll]
      | cons b m =>
        have := ih m
        show (PyData.eqv (toPy (.str [a])) (toPy (.str [b])) && PyData.eqvAll (toPyAll (signs l)) (toPyAll (signs m))) = _
        rw [this]
        have e : PyData.eqv (toPy (.str [a])) (toPy (.str [b])) = decide (a = b) := by
          unfold toPy PyData.eqv
          by_cases h : a = b
          · subst h; simp
          · have : S [a] ≠ S [b] := fun z => h (by have := S_inj z; simpa using this)
            rw [decide_eq_false h]
            simpa using this
        rw [e]
        by_cases h : a = b <;> by_cases h2 : l = m <;> simp [h, h2]
  intro l m
  unfold deq toPy PyData.eqv
  exact key l m
theorem shp_signs {n : Nat} {l : List Nat} (h : ∀ c ∈ l, c < 0x110000) : shpAll n (signs l) = true := by
  induction l with
  | nil => unfold signs shpAll; rfl
  | cons a l ih =>
    show shpAll n (.str [a] :: signs l) = true
    unfold shpAll
    rw [ih fun c hc => h c (List.mem_cons_of_mem _ hc)]
    unfold shp
    simp [h a List.mem_cons_self]
theorem alk_signs (l : List Nat) : alk (signs l) = true := by
  unfold alk signs
  rw [List.all_eq_true]
  intro a ha
  rw [List.all_eq_true]
  intro b hb
  obtain ⟨c, _, rfl⟩ := List.mem_map.mp ha
  obtain ⟨d, _, rfl⟩ := List.mem_map.mp hb
  rfl
theorem srt_signs (l : List Nat) : srt (signs l) = true := by
  unfold srt signs
  rw [Bool.or_eq_true]
  right
  rw [List.all_eq_true]
  intro a ha
  obtain ⟨c, _, rfl⟩ := List.mem_map.mp ha
  rfl
theorem cSorted_str {l : List Nat} (h : ∀ c ∈ l, c < 0x110000) (hl : l.length ≤ big) : cSorted [.str l] = .ok (.list (signs (sortN l))) := by
  have e0 : cSorted [.str l] = Res.need (shortS (.str l) = true ∧ shpAll 9 (l.map fun c => D.str [c]) = true ∧ alk (l.map fun c => D.str [c]) = true ∧ srt (l.map fun c => D.str [c]) = true ∧ (l.map fun c => D.str [c]).length ≤ big) (.ok (.list (sortD (l.map fun c => D.str [c])))) := by
    unfold cSorted
    rfl
  rw [e0]
  have e : (l.map fun c => D.str [c]) = signs l := rfl
  rw [e, need_ok ⟨decide_eq_true hl, shp_signs h, alk_signs l, srt_signs l, by unfold signs; rw [List.length_map]; exact hl⟩, sortD_signs]
theorem oNe_signs {l m : List Nat} (h1 : ∀ c ∈ l, c < 0x110000) (h2 : ∀ c ∈ m, c < 0x110000) : oNe (.list (signs l)) (.list (signs m)) = .ok (.bool (!decide (l = m))) := by
  unfold oNe
  have e : oEqB (.list (signs l)) (.list (signs m)) = Res.need (shp 10 (.list (signs l)) = true ∧ shp 10 (.list (signs m)) = true) (.ok (deq (.list (signs l)) (.list (signs m)))) := rfl
  rw [e, need_ok ⟨by unfold shp; exact shp_signs h1, by unfold shp; exact shp_signs h2⟩, deq_signs]
  rfl
theorem sortN_mem {l : List Nat} {c : Nat} (h : c ∈ sortN l) : c ∈ l := (sortN_perm l).mem_iff.mp h
end DL
namespace DL
open PySem L2
/-! ### sum of a list, of a tuple -/
section
variable {prog : Program} {w : World} {A : Around} {E : Value → Shared → Prop} {s : Shared} {l : Addr} {its : List Value} {ns : List Int} {Q : Value → Shared → Prop}
theorem sum_ofT (hh : A.handled = none) (ht : s.heap.IsTuple l its.toArray) (hi : PyProof.Rows.IntsAre its ns)
    (hq : ∀ h2 tk t2, (∀ b o, s.heap.get? b = some o → h2.get? b = some o) → Q (.int ns.sum t2) { s with heap := h2, toks := tk }) : wpAny (model prog w) A (call (.builtin "sum") [.ref l]) Q E s := by
  obtain ⟨xs, ex⟩ := hi.allInts.items
  have hn : numsOf (intItems xs).toList = ns := by rw [← ex]; exact hi.numsOf
  rw [nums_intItems] at hn
  rw [ex] at ht
  have hlt : l < s.heap.objs.size := by
    obtain ⟨_, e1, _⟩ := ht
    exact Heap.lt_size e1
  refine call_sum_walkG (wpAny_pyIter_tuple ht ?_)
  refine ⟨_, _, _, _, _, _, numAt xs, rfl, Walks.tuple (A := A.in1) hh _ l (Nat.ne_of_lt hlt) (intItems xs), ⟨⟨_, Heap.get?_push_size _ rfl, rfl, rfl⟩, ht.push _⟩, fun b hb => ?_, fun _ _ => intItems_at, fun h2 tk t2 hk => ?_⟩
  · show b < (s.heap.push _).objs.size
    rw [Heap.size_push]
    rcases List.mem_cons.mp hb with rfl | hb
    · exact Nat.lt_succ_self _
    · rw [List.mem_singleton.mp hb]
      exact Nat.lt_succ_of_lt hlt
  · have z := hq h2 tk t2 fun b o eb => hk b o (fun hm => absurd (Heap.lt_size eb) (by rw [List.mem_singleton.mp hm]; exact Nat.lt_irrefl _)) (Heap.get?_push_of_some _ eb)
    have e2 : preSum (numAt xs) (intItems xs).size = ns.sum := by
      have : (intItems xs).size = xs.size := by simp [intItems]
      rw [this, preSum_eq, List.take_of_length_le (by simp), hn]
    rw [e2]
    exact z
end
section
variable {X : Cx} {cl : Nat → Addr} {W : WX} {K : Fg}
def rSumA (K : Fg) : List V → Hp → VK → Prop := fun vs H Q => ∃ (a : Addr) (ns : List Int), vs = [V.ref a] ∧ (SqL K H a (ns.map V.int) ∨ SqT K H a (ns.map V.int)) ∧ Q (.int ns.sum) H
theorem cr_sumA (hc : X.calm = true) : CallR X (.builtin "sum") (rSumA X.K) := by
  intro pins s σ H vs us Q I r h
  obtain ⟨a, ns, rfl, hs | hs, q⟩ := h
  · exact cr_sum hc pins s σ H [.ref a] us Q I r ⟨a, ns, rfl, hs, q⟩
  · obtain ⟨its, rv, p, _⟩ := I.tuple hs
    rw [Vals.ref1 r]
    exact sum_ofT (I.ok.hd hc) (show s.heap.IsTuple a its.toArray from p) rv.ints fun h2 tk t2 hk => ⟨.int _, H, I.kept hk, ⟨_, rfl⟩, q⟩
def intsD : List D → Option (List Int)
  | [] => some []
  | .int b :: r => (intsD r).map (b :: ·)
  | _ => none
theorem intsD_rp {H : Hp} : ∀ {l : List D} {bs : List Int} {xs : List V}, intsD l = some bs → RpAll K H l xs → xs = bs.map V.int
  | [], bs, xs, h, r => by
    unfold intsD at h
    unfold RpAll at r
    cases h
    exact r
  | d :: l, bs, xs, h, r => by
    unfold RpAll at r
    obtain ⟨v, t, rfl, h1, h2⟩ := r
    cases d with
    | int b =>
      unfold intsD at h
      cases e : intsD l with
      | none => rw [e] at h; cases h
      | some cs =>
        rw [e] at h
        cases h
        obtain rfl := rp_int h1
        rw [intsD_rp e h2]
        rfl
    | _ => cases h
theorem ints_map (l : List Int) : intsD (l.map D.int) = some l := by
  induction l with
  | nil => rfl
  | cons x l ih =>
    show (intsD (l.map D.int)).map (x :: ·) = _
    rw [ih]
    rfl
def sumR (l : List D) : Res D := match intsD l with
  | some ns => .ok (.int ns.sum)
  | none => .stuck
theorem sumR_map (l : List Int) : sumR (l.map D.int) = .ok (.int l.sum) := by
  unfold sumR
  rw [ints_map]
def cSum : List D → Res D
  | [.list l] => sumR l
  | [.tuple l] => sumR l
  | _ => .stuck
theorem sumR_ne (l : List D) : noExc (sumR l) := by
  unfold sumR
  split
  · exact ok_noExc
  · exact stuck_noExc
theorem cSum_ne : noExcC cSum := fun ds => by
  unfold cSum
  split
  · exact sumR_ne _
  · exact sumR_ne _
  · exact stuck_noExc
theorem sim_sum : SimC K cl (rSumA K) cSum := by
  intro vs ds σ H Q r po
  unfold cSum sumR at po
  split at po
  · split at po
    · rename_i bs hb
      obtain ⟨v, rfl, h1⟩ := r.one
      obtain ⟨a, xs, rfl, ha, hx⟩ := rp_list h1
      rw [intsD_rp hb hx] at ha
      exact ⟨a, bs, rfl, .inl (Or.inl (Or.inl ha)), po _ H (Same.refl H) (rpi _) (fresh_no rfl)⟩
    · exact po.elim
  · split at po
    · rename_i bs hb
      obtain ⟨v, rfl, h1⟩ := r.one
      obtain ⟨a, xs, rfl, ha, hx⟩ := rp_tup h1
      rw [intsD_rp hb hx] at ha
      exact ⟨a, bs, rfl, .inr ha, po _ H (Same.refl H) (rpi _) (fresh_no rfl)⟩
    · exact po.elim
  · exact po.elim
variable {e : Expr} {es : List Expr} {pos p : Pos} {tr : TA} {gs : Dv → Res (List D)}
theorem q_sum (hc : X.calm = true) (hm : X.mg "sum" = none) (ha : QA X cl W (e :: es) tr gs) (hg : Gl X "sum" := by rfl) (he : starEach (e :: es) X.env = (false, eval e X.env) :: starEach es X.env := by rfl) (hpl : (backTo pos (starEach es X.env)).any (·.1) = false := by rfl) :
    QF X cl W (.Call (.Name "sum" p) (e :: es) [] pos) (tCB (rSumA X.K) tr) (fun δ => (gs δ).bind cSum) := q_callB (cr_sumA hc) sim_sum cSum_ne hg hm (by decide +kernel) ha (by decide) (by decide) he hpl
@[simp] theorem cSum_l (l : List D) : cSum [.list l] = sumR l := rfl
@[simp] theorem cSum_t (l : List D) : cSum [.tuple l] = sumR l := rfl
end
end DL
namespace DL
open PySem L2
/-! ### enumerate of a text -/
/-- the text z, each sign in a new pair with its place -/
def ItES (z : Str) : It :=
  ⟨fun i _ => i < z.cps.size, fun i H v H2 => ∃ T c, v = .ref T ∧ H T = none ∧ z.cps[i]? = some c ∧ H2 = upd H T (.tup [.int (i : Nat), .str ⟨#[c]⟩]), fun i _ => z.cps.size ≤ i⟩
theorem turn_enumS {P : Program} {w : World} {K : Fg} {elts : List Expr} {kk : Nat} {tpos : Pos} (z : Str) (tz : Tok) (e it : Addr) :
    Turn P w K (.Tuple elts kk tpos) (ItES z) [e, it] e (fun i h => i ≤ z.cps.size ∧ (∃ old, IsEnum h e it ((i : Nat) : Int) old) ∧ h.IsStrIter it (strIterType z) z tz i ∧ e ≠ it) where
  mem := by simp
  obj := fun i h st b hb => by
    obtain ⟨_, ⟨old, he⟩, ⟨o, ho, hc, hd⟩, _⟩ := st
    rcases List.mem_cons.mp hb with q | q
    · subst q
      exact ⟨_, he, fun v z => nomatch z⟩
    · rw [List.mem_singleton.mp q]
      exact ⟨o, ho, fun v z => by rw [hd] at z; cases z⟩
  keep := fun i h h2 st k => by
    obtain ⟨hz, ⟨old, he⟩, ⟨o, ho, hc⟩, hne⟩ := st
    exact ⟨hz, ⟨old, k e (by simp) _ he⟩, ⟨o, k it (by simp) o ho, hc⟩, hne⟩
  item := by
    intro X hP hw hK hc i pins s σ H E I hf st hg
    subst hP hw hK
    obtain ⟨_, ⟨old, he⟩, hit, hne⟩ := st
    have hel : e < s.heap.objs.size := Heap.lt_size he
    have hil : it < s.heap.objs.size := by
      obtain ⟨_, q, _⟩ := hit
      exact Heap.lt_size q
    refine wpAny_pyNext_enum_itemC (Draws.text (A := X.A.in1) (I.ok.hd hc) it z tz) he hit hg hne (by simpa using hne) fun x h2 tk hx ho hit2 hT hsz hk => ?_
    obtain ⟨c, u, hcz, rfl⟩ := hx
    refine ⟨_, rfl, wpAny_letOwnedTupleGo_enum (s := { s with heap := h2, toks := tk + 1 }) ho fun h3 he3 sb => ?_⟩
    have hT2 : h3.get? s.heap.objs.size = some { cls := .type "tuple", data := .seq #[.int (i : Nat) tk, .str ⟨#[c]⟩ u] } := (sb.2 _ (Nat.ne_of_gt hel)).trans hT
    have new : ObjOk X.prog X.w (upd H s.heap.objs.size (.tup [.int (i : Nat), .str ⟨#[c]⟩])) h3 s.heap.objs.size (.tup [.int (i : Nat), .str ⟨#[c]⟩]) :=
      ⟨by show 2 ≤ sizeLine; decide, [.int (i : Nat) tk, .str ⟨#[c]⟩ u], .cons ⟨_, rfl⟩ (.cons ⟨_, rfl⟩ .nil), ⟨_, hT2, rfl, _, rfl⟩⟩
    have I1 : Inv X pins σ (upd H s.heap.objs.size (.tup [.int (i : Nat), .str ⟨#[c]⟩])) { s with heap := h3, toks := tk + 1 } :=
      I.turnedNew (ch := [e, it]) (fun b ob hb q => (sb.2 b (fun y => hb (by simp [y]))).trans (hk b ob (fun y => hb (by simp [y])) (fun y => hb (by simp [y])) q)) hf (Nat.le_refl _) new
    refine ⟨.ref s.heap.objs.size, _, I1, rfl, ⟨_, c, rfl, I.hok.fresh (Nat.le_refl _), hcz, rfl⟩, ⟨hg, ⟨.str ⟨#[c]⟩ u, ?_⟩, ?_, hne⟩, fun b hb => ?_⟩
    · have e1 : ((i + 1 : Nat) : Int) = (i : Int) + 1 := by omega
      rw [e1]
      exact he3
    · obtain ⟨o, q, r⟩ := hit2
      exact ⟨o, (sb.2 it (Ne.symm hne)).trans q, r⟩
    · have hb2 : b < s.heap.objs.size := by
        rcases List.mem_cons.mp hb with q | q
        · rw [q]; exact hel
        · rw [List.mem_singleton.mp q]; exact hil
      rw [upd_ne (Nat.ne_of_lt hb2)]
      exact (hf b hb).1
  done := by
    intro X hP hw hK hc i pins s σ H E I hf st hg
    subst hP hw hK
    obtain ⟨hz, ⟨old, he⟩, hit, hne⟩ := st
    have ei : i = z.cps.size := Nat.le_antisymm hz hg
    subst ei
    obtain ⟨f0, f1, f2, f3, f4, f5⟩ := hf it (by simp)
    exact wpAny_pyNext_enum_endD (Draws.text (A := X.A.in1) (I.ok.hd hc) it z tz) he hit fun h2 eb => ⟨rfl, I.turned (t' := s.toks) (fun b o hb q => eb b o hb q) f0 f1 f3 f4 f5⟩
  self := fun A i s Q E st h => by
    obtain ⟨_, ⟨_, he⟩, _⟩ := st
    exact wpAny_pyIter_enum he h
/-- enumerate(list), enumerate(text) -/
def iEnumA (K : Fg) (ta : TA) : TI := fun σ H R => ta σ H fun vs H1 => (∃ a xs, vs = [.ref a] ∧ SqL K H1 a xs ∧ R (Ite K a) H1) ∨ ∃ z, vs = [.str z] ∧ R (ItES z) H1
theorem pi_enumA {X : Cx} {e : Expr} {ta : TA} {p pos tpos : Pos} {elts : List Expr} {kk : Nat} (hg : Gl X "enumerate") (hm : X.mg "enumerate" = none) (ha : PA X [e] ta) (hs : starEach [e] X.env = [(false, eval e X.env)] := by rfl) :
    PI X (.Tuple elts kk tpos) (.Call (.Name "enumerate" p) [e] [] pos) (iEnumA X.K ta) := by
  refine ⟨fun pins s σ H R I h => ?_⟩
  refine PyProof.Rows.Call_ (ld_blt I hg hm PyProof.Rows.boot_enumerate (PyProof.Rows.callWith_type1 (thn (ha.run pos pins s σ H _ I h) fun us s1 ⟨vs, H1, I1, r1, q1⟩ => ?_) hs rfl))
  have low : ∀ b, b ∈ [s1.heap.objs.size + 1, s1.heap.objs.size] → s1.heap.objs.size ≤ b := fun b hb => by
    rcases List.mem_cons.mp hb with y | y
    · rw [y]; exact Nat.le_add_right _ _
    · rw [List.mem_singleton.mp y]; exact Nat.le_refl _
  rcases q1 with ⟨a, xs, rfl, hq, q⟩ | ⟨z, rfl, q⟩
  · cases r1 with
    | cons r rr =>
      cases rr
      cases r
      obtain ⟨its, rv, p2, hz⟩ := I1.list hq
      refine call_enumerate_list p2.isList fun h2 he hit hsz hk => wpAny_pyIter_enum he ?_
      exact ⟨s1.heap.objs.size + 1, [s1.heap.objs.size + 1, s1.heap.objs.size], _, _, H1, rfl, I1.kept (t' := s1.toks) hk, turn_enum a (s1.heap.objs.size + 1) s1.heap.objs.size, ⟨⟨.none, he⟩, hit, Nat.succ_ne_self _⟩, fun b hb => I1.fpOk (low b hb) (I1.hok.fresh (low b hb)), q⟩
  · cases r1 with
    | cons r rr =>
      cases rr
      obtain ⟨t, rfl⟩ := r
      refine call_enumerate_str fun h2 he hit hsz hk => wpAny_pyIter_enum he ?_
      exact ⟨s1.heap.objs.size + 1, [s1.heap.objs.size + 1, s1.heap.objs.size], _, _, H1, rfl, I1.kept (t' := s1.toks) hk, turn_enumS z t (s1.heap.objs.size + 1) s1.heap.objs.size, ⟨Nat.zero_le _, ⟨.none, he⟩, hit, Nat.succ_ne_self _⟩, fun b hb => I1.fpOk (low b hb) (I1.hok.fresh (low b hb)), q⟩
def numD (l : List D) : List D := (List.range l.length).map fun (i : Nat) => D.tuple [.int (i : Int), l.getD i .none]
theorem numD_len (l : List D) : (numD l).length = l.length := by simp [numD]
theorem numD_get {l : List D} {i : Nat} {d : D} (h : l[i]? = some d) : (numD l)[i]? = some (.tuple [.int (i : Int), d]) := by
  have hi : i < l.length := by
    rcases Nat.lt_or_ge i l.length with q | q
    · exact q
    · rw [List.getElem?_eq_none q] at h; cases h
  unfold numD
  rw [List.getElem?_map, List.getElem?_range hi]
  show some (D.tuple [D.int (i : Int), l.getD i D.none]) = _
  rw [List.getD_eq_getElem?_getD, h]
  rfl
theorem same_pair {H : Hp} {T : Addr} {o : HO} (h : H T = none) : Same H (upd H T o) := same_new h
theorem walkD_eS {K : Fg} {B : Hp} (l : List Nat) : WalkD K B (ItES (S l)) (numD (l.map fun c => .str [c])) := by
  have e : (S l).cps.size = (numD (l.map fun c => (D.str [c]))).length := by rw [numD_len]; simp [S]
  refine ⟨fun _ => True, fun i H v H2 => ∃ T c, v = .ref T ∧ H T = none ∧ (S l).cps[i]? = some c ∧ H2 = upd H T (.tup [.int (i : Nat), .str ⟨#[c]⟩]), ⟨fun i H hi _ => ?_, fun H _ => ?_, fun i H x H2 hi _ y => y⟩, fun _ _ => trivial, fun i H x H2 hi s y => ?_⟩
  · show i < (S l).cps.size
    rw [e]
    exact hi
  · show (S l).cps.size ≤ _
    rw [e]
    exact Nat.le_refl _
  · obtain ⟨T, c, rfl, hT, hc, rfl⟩ := y
    have e2 : l[i]? = some c := by simpa [S] using hc
    refine ⟨same_new hT, _, numD_get (d := .str [c]) (by rw [List.getElem?_map, e2]; rfl), ?_⟩
    refine rpt upd_same ?_
    exact .cons (rpi _) (.cons (by unfold Rp; rfl) .nil)
theorem walkD_eL {K : Fg} {B : Hp} {a : Addr} {xs : List V} {l : List D} (h : SqL K B a xs) (r : RpAll K B l xs) : WalkD K B (Ite K a) (numD l) := by
  have w := walk_enum (K := K) (a := a) (xs := xs)
  rw [r.length, ← numD_len l] at w
  refine ⟨_, _, w, fun H s => same_l s h, fun i H x H2 hi s y => ?_⟩
  obtain ⟨T, u, v, rfl, hT, rfl, hu, hv⟩ := y
  cases hu
  obtain ⟨d, h1, h2⟩ := r.get hv
  have sm : Same H (upd H T (.tup [.int (i : Nat), v])) := same_new hT
  exact ⟨sm, _, numD_get h1, rpt upd_same (.cons (rpi _) (.cons (Rp.mono (s.trans sm) _ _ h2) .nil))⟩
section
variable {X : Cx} {cl : Nat → Addr} {W : WX} {e : Expr} {ta : TA} {gs : Dv → Res (List D)} {p pos tpos : Pos} {elts : List Expr} {kk : Nat}
def iEn : List D → Res (List D)
  | [.str l] => .ok (numD (l.map fun c => .str [c]))
  | _ => .stuck
def iEnJ : List D → Res (List D)
  | [.str l] => .ok (numD (l.map fun c => .str [c]))
  | [.list l] => .ok (numD l)
  | _ => .stuck
theorem i_enum (hm : X.mg "enumerate" = none) (ha : QA X cl W [e] ta gs) (hg : Gl X "enumerate" := by rfl) (hs : starEach [e] X.env = [(false, eval e X.env)] := by rfl) : QI X cl W (.Tuple elts kk tpos) (.Call (.Name "enumerate" p) [e] [] pos) (iEnumA X.K ta) (fun δ => (gs δ).bind iEn) := by
  refine ⟨pi_enumA hg hm ha.pe hs, fun δ σ H R en po => ?_⟩
  show ta σ H _
  refine ha.sim δ σ H _ en ?_
  change ((gs δ).bind iEn).on _ _ at po
  cases r : gs δ with
  | exc c => rw [r] at po; exact po
  | stuck => rw [r] at po; exact po
  | ok ds =>
    rw [r, Res.ok_bind] at po
    intro vs H1 s rp
    unfold iEn at po
    split at po
    · obtain ⟨v, rfl, hv⟩ := rp.one
      obtain rfl := rp_str hv
      exact .inr ⟨_, rfl, po _ H1 s fun M _ => walkD_eS _⟩
    · exact po.elim
theorem j_enum (hm : X.mg "enumerate" = none) (ha : QA X cl W [e] ta gs) (hg : Gl X "enumerate" := by rfl) (hs : starEach [e] X.env = [(false, eval e X.env)] := by rfl) : QJ X cl W (.Tuple elts kk tpos) (.Call (.Name "enumerate" p) [e] [] pos) (iEnumA X.K ta) (fun δ => (gs δ).bind iEnJ) := by
  refine ⟨pi_enumA hg hm ha.pe hs, fun δ σ H R en po => ?_⟩
  show ta σ H _
  refine ha.sim δ σ H _ en ?_
  change ((gs δ).bind iEnJ).on _ _ at po
  cases r : gs δ with
  | exc c => rw [r] at po; exact po
  | stuck => rw [r] at po; exact po
  | ok ds =>
    rw [r, Res.ok_bind] at po
    intro vs H1 s rp
    unfold iEnJ at po
    split at po
    · obtain ⟨v, rfl, hv⟩ := rp.one
      obtain rfl := rp_str hv
      exact .inr ⟨_, rfl, po _ H1 s (walkD_eS _)⟩
    · obtain ⟨v, rfl, hv⟩ := rp.one
      obtain ⟨a, xs, rfl, hq, hx⟩ := rp_list hv
      exact .inl ⟨a, xs, rfl, Or.inl (Or.inl hq), po _ H1 s (walkD_eL (Or.inl (Or.inl hq)) hx)⟩
    · exact po.elim
end
end DL
namespace DL
open PySem L2
/-! ### dicts whose keys are ints and texts, or tuples of these -/
section
variable {κ : Type} [DecidableEq κ]
def valD : List κ → List D → κ → Option D
  | k :: ks, v :: vs, j => if k = j then some v else valD ks vs j
  | _, _, _ => none
def putDv : List κ → List D → κ → D → List D
  | k :: ks, v :: vs, j, x => (if k = j then x else v) :: putDv ks vs j x
  | _, _, _, _ => []
def putKs (ks : List κ) (j : κ) : List κ := if j ∈ ks then ks else ks ++ [j]
def putVs (ks : List κ) (vs : List D) (j : κ) (x : D) : List D := if j ∈ ks then putDv ks vs j x else vs ++ [x]
variable {K : Fg} {H : Hp}
theorem valD_rp : ∀ {kvs : List (κ × V)} {vs : List D} (j : κ), RpAll K H vs (kvs.map (·.2)) → (∀ d, valD (kvs.map (·.1)) vs j = some d → ∃ v, valV kvs j = some v ∧ Rp K H d v) ∧ (valD (kvs.map (·.1)) vs j = none → valV kvs j = none)
  | [], vs, j, r => by
    refine ⟨fun d h => ?_, fun _ => rfl⟩
    unfold valD at h
    cases h
  | p :: kvs, [], j, r => by
    unfold RpAll at r
    cases r
  | p :: kvs, d :: vs, j, r => by
    unfold RpAll at r
    obtain ⟨v, t, e, r1, r2⟩ := r
    cases e
    have ih := valD_rp j r2
    by_cases q : p.1 = j
    · refine ⟨fun d2 h => ?_, fun h => ?_⟩
      · rw [valV_pos q]
        simp only [List.map_cons, valD, q, if_true] at h
        cases h
        exact ⟨_, rfl, r1⟩
      · simp only [List.map_cons, valD, q, if_true] at h
        cases h
    · rw [valV_neg q]
      simp only [List.map_cons, valD, q, if_false]
      exact ih
theorem putDv_rp {x : D} {u : V} (rx : Rp K H x u) : ∀ {kvs : List (κ × V)} {vs : List D} (j : κ), RpAll K H vs (kvs.map (·.2)) → RpAll K H (putDv (kvs.map (·.1)) vs j x) ((kvs.map fun kv => if kv.1 = j then (kv.1, u) else kv).map (·.2))
  | [], vs, j, r => by
    unfold putDv RpAll
    rfl
  | p :: kvs, [], j, r => by
    unfold RpAll at r
    cases r
  | p :: kvs, d :: vs, j, r => by
    unfold RpAll at r
    obtain ⟨v, t, e, r1, r2⟩ := r
    cases e
    have ih := putDv_rp rx j r2
    by_cases q : p.1 = j
    · simp only [List.map_cons, putDv, q, if_true]
      exact .cons rx ih
    · simp only [List.map_cons, putDv, q, if_false]
      exact .cons r1 ih
theorem put_keys (kvs : List (κ × V)) (j : κ) (u : V) : (putK kvs j u).map (·.1) = putKs (kvs.map (·.1)) j := by
  unfold putK putKs
  have e : (kvs.any fun kv => decide (kv.1 = j)) = true ↔ j ∈ kvs.map (·.1) := by
    rw [List.any_eq_true]
    simp
  by_cases q : j ∈ kvs.map (·.1)
  · rw [if_pos (e.mpr q), if_pos q, List.map_map]
    apply List.map_congr_left
    intro p _
    show (if p.1 = j then (p.1, u) else p).1 = p.1
    split <;> rfl
  · rw [if_neg fun z => q (e.mp z), if_neg q, List.map_append]
    rfl
theorem put_rp {x : D} {u : V} {kvs : List (κ × V)} {vs : List D} (rx : Rp K H x u) (j : κ) (r : RpAll K H vs (kvs.map (·.2))) : RpAll K H (putVs (kvs.map (·.1)) vs j x) ((putK kvs j u).map (·.2)) := by
  unfold putK putVs
  have e : (kvs.any fun kv => decide (kv.1 = j)) = true ↔ j ∈ kvs.map (·.1) := by
    rw [List.any_eq_true]
    simp
  by_cases q : j ∈ kvs.map (·.1)
  · rw [if_pos (e.mpr q), if_pos q]
    exact putDv_rp rx j r
  · rw [if_neg fun z => q (e.mp z), if_neg q, List.map_append]
    exact r.append (.cons rx .nil)
theorem putDv_imm {x : D} (hx : imm x = true) : ∀ {ks : List κ} {vs : List D} (j : κ), immAll vs = true → immAll (putDv ks vs j x) = true
  | [], vs, j, _ => by unfold putDv; rfl
  | k :: ks, [], j, _ => by unfold putDv; rfl
  | k :: ks, v :: vs, j, h => by
    unfold immAll at h
    rw [Bool.and_eq_true] at h
    unfold putDv immAll
    rw [putDv_imm hx j h.2, Bool.and_true]
    split
    · exact hx
    · exact h.1
theorem putVs_imm {x : D} (hx : imm x = true) {ks : List κ} {vs : List D} (j : κ) (h : immAll vs = true) : immAll (putVs ks vs j x) = true := by
  unfold putVs
  split
  · exact putDv_imm hx j h
  · exact immAll_app h (immAll_one hx)
end
def keyD : D → Option Key
  | .int i => some (.inl i)
  | .str l => some (.inr (S l))
  | _ => none
def keysD : List D → Option (List Key)
  | [] => some []
  | d :: ds => match keyD d, keysD ds with
    | some k, some ks => some (k :: ks)
    | _, _ => none
section
variable {K : Fg} {H : Hp}
theorem rp_key {d : D} {k : Key} {v : V} (h : keyD d = some k) (r : Rp K H d v) : v = kV k := by
  cases d with
  | int i => cases h; exact rp_int r
  | str l => cases h; exact rp_str r
  | _ => cases h
theorem rp_keys : ∀ {l : List D} {ks : List Key} {xs : List V}, keysD l = some ks → RpAll K H l xs → xs = ks.map kV
  | [], ks, xs, h, r => by
    unfold keysD at h
    unfold RpAll at r
    cases h
    exact r
  | d :: l, ks, xs, h, r => by
    unfold keysD at h
    unfold RpAll at r
    obtain ⟨v, t, rfl, r1, r2⟩ := r
    cases e1 : keyD d with
    | none => rw [e1] at h; cases h
    | some k =>
      cases e2 : keysD l with
      | none => rw [e1, e2] at h; cases h
      | some m =>
        rw [e1, e2] at h
        cases h
        rw [rp_key e1 r1, rp_keys e2 r2]
        rfl
/-- what d holds at the key k -/
def lookR (d k : D) : Res (Option D) := match d with
  | .dicK ks vs => match keyD k with
    | some j => .ok (valD ks vs j)
    | none => .stuck
  | .dicT ks vs => match k with
    | .tuple l => match keysD l with
      | some j => .ok (valD ks vs j)
      | none => .stuck
    | _ => .stuck
  | _ => .stuck
theorem lookR_ne (d k : D) (c : Nat) : lookR d k ≠ .exc c := by
  unfold lookR
  split
  · split <;> (intro z; cases z)
  · split
    · split <;> (intro z; cases z)
    · intro z; cases z
  · intro z; cases z
theorem look_rp {d k : D} {x y : V} {o : Option D} (h : lookR d k = .ok o) (r : Rp K H d x) (rk : Rp K H k y) : ∃ a p, x = .ref a ∧ IsD H a ∧ DGet H a y p ∧ (∀ e, o = some e → ∃ v, p = some v ∧ Rp K H e v) ∧ (o = none → p = none) := by
  unfold lookR at h
  split at h
  · split at h
    · rename_i j hj
      cases h
      unfold Rp at r
      obtain ⟨a, kvs, rfl, ha, rfl, rv⟩ := r
      obtain ⟨z1, z2⟩ := valD_rp j rv
      exact ⟨a, _, rfl, .inl ⟨kvs, ha⟩, .inl ⟨kvs, j, ha, rp_key hj rk, rfl⟩, z1, z2⟩
    · cases h
  · split at h
    · split at h
      · rename_i j hj
        cases h
        unfold Rp at r
        obtain ⟨a, kvs, rfl, ha, rfl, rv⟩ := r
        obtain ⟨b, xs, rfl, hb, hx⟩ := rp_tupH rk
        obtain ⟨z1, z2⟩ := valD_rp j rv
        rw [rp_keys hj hx] at hb
        exact ⟨a, _, rfl, .inr ⟨kvs, ha⟩, .inr ⟨kvs, j, b, ha, rfl, hb, rfl⟩, z1, z2⟩
      · cases h
    · cases h
  · cases h
end
section
variable {X : Cx} {cl : Nat → Addr} {W : WX} {a b c o : Expr} {ta tb tc : TE} {f h g : Dv → Res D} {pos apos cpos : Pos}
def ofV (o : Option D) : Res D := match o with
  | some e => .ok e
  | none => .stuck
def dGetD (f h : Dv → Res D) : Dv → Res D := fun δ => (f δ).bind fun d => (h δ).bind fun k => (lookR d k).bind ofV
theorem q_dget (hu : X.A.units + 64 < cLine) (ha : QE X cl W a ta f) (hb : QE X cl W b tb h) (hs : NoSl b := by exact fun _ _ => rfl) : QE X cl W (.Subscript a b pos) (tDGet ta tb) (dGetD f h) := by
  refine ⟨pe_dget (by omega) ha.pe hb.pe hs, fun δ σ H Q en po => ?_⟩
  show ta σ H _
  refine ha.sim.chain (P := fun H r => PostE X.K cl W σ H r Q) en po (fun c h => h) (fun H h => h) fun d v H1 _ s1 r1 p1 => ?_
  show tb σ H1 _
  refine hb.sim.chain (P := fun H r => PostE X.K cl W σ H r Q) (en.mono s1) (PostE.weak s1 p1) (fun c h => h) (fun H h => h) fun k y H2 _ s2 r2 p2 => ?_
  have p3 := p2.weak s2
  cases q : lookR d k with
  | exc c => exact (lookR_ne _ _ c q).elim
  | stuck => rw [q] at p3; exact p3.elim
  | ok w =>
    rw [q, Res.ok_bind] at p3
    obtain ⟨ad, p, rfl, _, hg, z1, _⟩ := look_rp q (Rp.mono s2 _ _ r1) r2
    cases w with
    | none => exact p3.elim
    | some e =>
      obtain ⟨v, rfl, rv⟩ := z1 e rfl
      exact ⟨ad, v, rfl, hg, p3 v H2 (Same.refl H2) rv⟩
def isDicB : D → Bool
  | .dicK _ _ => true
  | .dicT _ _ => true
  | _ => false
theorem isD_of {K : Fg} {H : Hp} {d : D} {x : V} (r : Rp K H d x) (h : isDicB d = true) : ∃ a, x = .ref a ∧ IsD H a := by
  cases d with
  | dicK ks vs =>
    unfold Rp at r
    obtain ⟨a, kvs, rfl, ha, _⟩ := r
    exact ⟨a, rfl, .inl ⟨kvs, ha⟩⟩
  | dicT ks vs =>
    unfold Rp at r
    obtain ⟨a, kvs, rfl, ha, _⟩ := r
    exact ⟨a, rfl, .inr ⟨kvs, ha⟩⟩
  | _ => cases h
/-- d.get(k, x) of what is a dict -/
def asDic (d : D) : Res D := match d with
  | .dicK ks vs => .ok (.dicK ks vs)
  | .dicT ks vs => .ok (.dicT ks vs)
  | _ => .stuck
def dGet2 (f h g : Dv → Res D) : Dv → Res D := fun δ => (f δ).bind fun d => (asDic d).bind fun d => (h δ).bind fun k => (g δ).bind fun x => (lookR d k).bind fun o => .ok (o.getD x)
theorem asDic_ok {d e : D} (h : asDic d = .ok e) : e = d ∧ isDicB d = true := by
  cases d with
  | dicK ks vs => cases h; exact ⟨rfl, rfl⟩
  | dicT ks vs => cases h; exact ⟨rfl, rfl⟩
  | _ => cases h
theorem q_dget2 (hu : X.A.units + 64 < cLine) (ho : QE X cl W o ta f) (ha : QE X cl W a tb h) (hb : QE X cl W b tc g) (m : M2 X o "get" apos a b cpos := by exact ⟨rfl, rfl, rfl, rfl⟩) : QE X cl W (.Call (.Attribute o "get" apos) [a, b] [] cpos) (tDGet2 ta tb tc) (dGet2 f h g) := by
  refine ⟨pe_dget2 (by omega) ho.pe ha.pe hb.pe m, fun δ σ H Q en po => ?_⟩
  show ta σ H _
  refine ho.sim.chain (P := fun H r => PostE X.K cl W σ H r Q) en po (fun c h => h) (fun H h => h) fun d v H1 _ s1 r1 p1 => ?_
  cases qd : asDic d with
  | exc c => rw [qd] at p1; cases d <;> cases qd
  | stuck => rw [qd] at p1; exact p1.elim
  | ok e =>
    rw [qd, Res.ok_bind] at p1
    obtain ⟨rfl, hd⟩ := asDic_ok qd
    obtain ⟨ad, rfl, isd⟩ := isD_of r1 hd
    refine ⟨ad, rfl, isd, ?_⟩
    show tb σ H1 _
    refine ha.sim.chain (P := fun H r => PostE X.K cl W σ H r Q) (en.mono s1) (PostE.weak s1 p1) (fun c h => h) (fun H h => h) fun k y H2 _ s2 r2 p2 => ?_
    show tc σ H2 _
    refine hb.sim.chain (P := fun H r => PostE X.K cl W σ H r Q) (en.mono (s1.trans s2)) (PostE.weak s2 p2) (fun c h => h) (fun H h => h) fun x z H3 _ s3 r3 p3 => ?_
    have p4 := p3.weak s3
    cases q : lookR e k with
    | exc c => exact (lookR_ne _ _ c q).elim
    | stuck => rw [q] at p4; exact p4.elim
    | ok w =>
      rw [q, Res.ok_bind] at p4
      obtain ⟨ad2, p, e2, _, hg, z1, z2⟩ := look_rp q (Rp.mono (s2.trans s3) _ _ r1) (Rp.mono s3 _ _ r2)
      cases e2
      refine ⟨p, hg, ?_⟩
      cases w with
      | none =>
        rw [z2 rfl]
        exact p4 z H3 (Same.refl H3) r3
      | some e3 =>
        obtain ⟨v, rfl, rv⟩ := z1 e3 rfl
        exact p4 v H3 (Same.refl H3) rv
end
end DL
namespace DL
open PySem L2
/-! ### a dict of the body's own: made, changed -/
section
variable {K : Fg} {H0 H : Hp} {ε : Env} {σ : L2.St}
/-- the box of slot i changes -/
theorem SR.changeD {a : Addr} {e e2 : D} {o : HO} {i : Nat} (h : SR K H0 ε σ H) (hi : ε[i]? = some (some (.ow e))) (ha : σ[i]? = some (some (.ref a))) (bo : ∀ G : Hp, G a = some o → Boxy G a) (bx : isBox e2 = true) (im : immAll (inner e2) = true)
    (r : (∀ (l : List D) (xs : List V), immAll l = true → RpAll K H l xs → RpAll K (upd H a o) l xs) → Rp K (upd H a o) e2 (.ref a)) : SR K H0 (ε.set i (some (.ow e2))) σ (upd H a o) := by
  obtain ⟨M0, t1, b0, f0, o0, n0⟩ := h
  obtain ⟨u, h1, h2, h3⟩ := o0 i _ hi
  rw [ha] at h1
  cases h1
  have eh : hide (upd H a o) M0 = hide H M0 := hide_upd h2
  have up : ∀ (l : List D) (xs : List V), immAll l = true → RpAll K H l xs → RpAll K (upd H a o) l xs := fun l xs il rl => by
    have z := RpAll.hide b0 l xs il rl
    rw [← eh] at z
    exact RpAll.mono (hide_same _ _) _ _ z
  have keepB : ∀ b ∈ M0, Boxy (upd H a o) b := fun b hb => by
    by_cases q : b = a
    · rw [q]
      exact bo _ upd_same
    · obtain ⟨u, z, m⟩ := b0 b hb
      exact ⟨u, (upd_ne q).trans z, m⟩
  refine ⟨M0, eh.symm ▸ t1, keepB, fun j y q => ?_, fun j y q => ?_, fun j k y y2 hjk q1 q2 => ?_⟩
  · rcases set_get q with ⟨rfl, _, z⟩ | ⟨z1, z2⟩
    · cases z
    · rw [eh]
      exact f0 j y z2
  · rcases set_get q with ⟨rfl, _, z⟩ | ⟨z1, z2⟩
    · cases z
      exact ⟨a, ha, h2, bx, im, r up⟩
    · obtain ⟨w, w1, w2, w3, w4, w5⟩ := o0 j y z2
      have ne : w ≠ a := fun z => n0 j i y _ z1 z2 hi (by rw [w1, ha, z])
      refine ⟨w, w1, w2, w3, w4, ?_⟩
      cases y with
      | list m =>
        obtain ⟨c, ys, e1, e2, e3⟩ := rp_list w5
        cases e1
        exact rpl ((upd_ne ne).trans e2) (up m ys w4 e3)
      | dicK ks m =>
        unfold Rp at w5 ⊢
        obtain ⟨c, ys, e1, e2, e4, e3⟩ := w5
        cases e1
        exact ⟨w, ys, rfl, rd_upd ne e2, e4, up m _ w4 e3⟩
      | dicT ks m =>
        unfold Rp at w5 ⊢
        obtain ⟨c, ys, e1, e2, e4, e3⟩ := w5
        cases e1
        exact ⟨w, ys, rfl, rd_upd ne e2, e4, up m _ w4 e3⟩
      | scr ns =>
        unfold Rp at w5 ⊢
        obtain ⟨c, e1, e2⟩ := w5
        cases e1
        refine ⟨w, rfl, ?_⟩
        rcases e2 with (e2 | ⟨ob, e2⟩) | e2
        · exact .inl (.inl ((upd_ne ne).trans e2))
        · exact .inl (.inr ⟨ob, (upd_ne ne).trans e2⟩)
        · exact .inr e2
      | _ => cases w3
  · rcases set_get q1 with ⟨rfl, _, z⟩ | ⟨z1, z2⟩
    · rcases set_get q2 with ⟨rfl, _, z⟩ | ⟨y1, y2⟩
      · exact (hjk rfl).elim
      · exact n0 _ _ _ _ hjk hi y2
    · rcases set_get q2 with ⟨rfl, _, z⟩ | ⟨y1, y2⟩
      · exact n0 _ _ _ _ hjk z2 hi
      · exact n0 _ _ _ _ hjk z2 y2
theorem SQ.changeD {a : Addr} {e e2 : D} {o : HO} {i : Nat} (h : SQ K H0 ε σ H) (hi : ε[i]? = some (some (.ow e))) (ha : σ[i]? = some (some (.ref a))) (bo : ∀ G : Hp, G a = some o → Boxy G a) (bx : isBox e2 = true) (im : immAll (inner e2) = true)
    (r : (∀ (l : List D) (xs : List V), immAll l = true → RpAll K H l xs → RpAll K (upd H a o) l xs) → Rp K (upd H a o) e2 (.ref a)) : SQ K H0 (ε.set i (some (.ow e2))) σ (upd H a o) := ⟨h.1.changeD hi ha bo bx im r, by rw [List.length_set, h.2]⟩
end
/-- e with x at the key k -/
def putR (e k x : D) : Option D := match e with
  | .dicK ks vs => (keyD k).map fun j => .dicK (putKs ks j) (putVs ks vs j x)
  | .dicT ks vs => match k with
    | .tuple l => (keysD l).map fun j => .dicT (putKs ks j) (putVs ks vs j x)
    | _ => none
  | _ => none
def lenD : D → Nat
  | .dicK ks _ => ks.length
  | .dicT ks _ => ks.length
  | _ => 0
section
variable {X : Cx} {cl : Nat → Addr} {W : WX} {o a value : Expr} {tk tv : TE} {fk fv : Dv → Res D} {pos pos2 : Pos}
def gPut (i : Nat) (fk fv : Dv → Res D) : DS := fun d ε => ∃ e, ε[i]? = some (some (.ow e)) ∧ (fv (view ε)).on (fun x => imm x = true ∧ (fk (view ε)).on (fun k => ∃ e2, putR e k x = some e2 ∧ lenD e < big ∧ d.nx (ε.set i (some (.ow e2)))) (fun c => d.ex c ε)) (fun c => d.ex c ε)
theorem s_put {i : Nat} (hu : X.A.units + 64 < cLine) (ho : PE X o (tVar i)) (hk : QE X cl W a tk fk) (hv : QE X cl W value tv fv) (hs : swapsWith value (some (.Subscript o a pos2)) pos.line X.env = pure false := by rfl) :
    QS X cl W (.Assign [.Subscript o a pos2] value pos) (sDPut (tVar i) tk tv) (gPut i fk fv) := by
  refine ⟨ps_dput (by omega) ho hk.pe hv.pe hs, fun H0 d D' ε σ H en q hh => ?_⟩
  obtain ⟨e, he, hh⟩ := hh
  show tv σ H _
  refine hv.sim.runS en q hh fun x v H1 _ s1 r1 hk1 => ?_
  obtain ⟨ix, hk1⟩ := hk1
  have q1 := q.mono s1
  obtain ⟨M0, t1, b0, f0, o0, n0⟩ := id q1.1
  obtain ⟨p, h1, h2, h3, h4, h5⟩ := o0 i e he
  refine ⟨.ref p, h1, ?_⟩
  show tk σ H1 _
  refine hk.sim.runS en q1 hk1 fun k y H2 _ s2 r2 hk2 => ?_
  obtain ⟨e2, hp, hz, nx⟩ := hk2
  have q2 := q1.mono s2
  have r5 := Rp.mono s2 _ _ h5
  have rx := Rp.mono s2 _ _ r1
  unfold putR at hp
  split at hp
  · rename_i ks vs
    cases ej : keyD k with
    | none => rw [ej] at hp; cases hp
    | some j =>
      rw [ej] at hp
      cases hp
      unfold Rp at r5
      obtain ⟨c, kvs, e1, hc, rfl, rv⟩ := r5
      cases e1
      have hc := ((b0 p h2).mono s2).rd hc
      have h6 : immAll vs = true := h4
      refine ⟨p, _, rfl, .inl ⟨kvs, j, hc, rp_key ej r2, ?_, rfl⟩, en.nx _ _ _ (q2.changeD (e2 := .dicK (putKs (kvs.map (·.1)) j) (putVs (kvs.map (·.1)) vs j x)) he h1 (fun G z => ⟨_, z, rfl⟩) rfl (putVs_imm ix j h6) fun up => ?_) nx⟩
      · have : kvs.length < big := by simpa [lenD] using hz
        exact big_lt (Nat.le_of_lt this)
      · unfold Rp
        exact ⟨p, _, rfl, .inl upd_same, put_keys _ _ _, up _ _ (putVs_imm ix j h6) (put_rp rx j rv)⟩
  · rename_i ks vs
    cases k with
    | tuple l =>
      change Option.map (fun j => D.dicT (putKs ks j) (putVs ks vs j x)) (keysD l) = some e2 at hp
      cases ej : keysD l with
      | none => rw [ej] at hp; cases hp
      | some j =>
        rw [ej] at hp
        cases hp
        unfold Rp at r5
        obtain ⟨c, kvs, e1, hc, rfl, rv⟩ := r5
        cases e1
        obtain ⟨b, xs, rfl, hb, hx⟩ := rp_tupH r2
        rw [rp_keys ej hx] at hb
        have hc := ((b0 p h2).mono s2).rd hc
        have h6 : immAll vs = true := h4
        refine ⟨p, _, rfl, .inr ⟨kvs, j, b, hc, rfl, hb, ?_, rfl⟩, en.nx _ _ _ (q2.changeD (e2 := .dicT (putKs (kvs.map (·.1)) j) (putVs (kvs.map (·.1)) vs j x)) he h1 (fun G z => ⟨_, z, rfl⟩) rfl (putVs_imm ix j h6) fun up => ?_) nx⟩
        · have : kvs.length < big := by simpa [lenD] using hz
          exact big_lt (Nat.le_of_lt this)
        · unfold Rp
          exact ⟨p, _, rfl, .inl upd_same, put_keys _ _ _, up _ _ (putVs_imm ix j h6) (put_rp rx j rv)⟩
    | _ => cases hp
  · cases hp
/-- x = {} -/
def gNewD (i : Nat) : DS := fun d ε => i < ε.length ∧ (d.nx (ε.set i (some (.ow (.dicK [] [])))) ∨ d.nx (ε.set i (some (.ow (.dicT [] [])))))
def tDNewA : TE := fun σ H Q => tDNewK σ H Q ∨ tDNewT σ H Q
theorem pe_dnewA : PE X (.Dict [] [] pos) tDNewA := ⟨fun pins s σ H Q I h => by
  rcases h with h | h
  · exact pe_dnewK.run pins s σ H Q I h
  · exact pe_dnewT.run pins s σ H Q I h⟩
theorem s_newD {i : Nat} {x : Str} {pos' : Pos} (hN : X.N.Nodup) (hi : X.N[i]? = some x) (hx : Loc X.env.scope x) (hs : swapsWith (.Dict [] [] pos2) (some (.Name x pos')) pos.line X.env = pure false := by rfl) (hf : X.fn x = true ∨ X.env.scope.names.lookup x = some .local := by first | exact .inl rfl | exact .inr rfl | assumption) :
    QS X cl W (.Assign [.Name x pos'] (.Dict [] [] pos2) pos) (tAsg tDNewA (gName i)) (gNewD i) := by
  refine ⟨ps_set hN hi hx pe_dnewA hs hf, fun H0 d D' ε σ H en q h => ?_⟩
  obtain ⟨li, h | h⟩ := h
  · refine .inl fun p hp => ?_
    have sm := same_new (o := .dK []) hp
    refine en.nx _ _ _ (q.putOwn li rfl (fun q e => by cases e; exact ⟨_, upd_same, rfl⟩) rfl sm ?_ (fresh_of hp)) h
    unfold Rp
    exact ⟨p, [], rfl, .inl upd_same, rfl, .nil⟩
  · refine .inr fun p hp => ?_
    have sm := same_new (o := .dT []) hp
    refine en.nx _ _ _ (q.putOwn li rfl (fun q e => by cases e; exact ⟨_, upd_same, rfl⟩) rfl sm ?_ (fresh_of hp)) h
    unfold Rp
    exact ⟨p, [], rfl, .inl upd_same, rfl, .nil⟩
end
end DL
namespace DL
open PySem L2
/-! ### isinstance; is None -/
def tyR : D → Res String
  | .none => .ok "NoneType"
  | .bool _ => .ok "bool"
  | .int _ => .ok "int"
  | .str _ => .ok "str"
  | .list _ => .ok "list"
  | .tuple _ => .ok "tuple"
  | .dicK _ _ => .stuck
  | .dicT _ _ => .stuck
  | .scr _ => .stuck
  | .adr _ => .stuck
  | .obj _ _ _ _ => .stuck
  | .fzl _ => .ok "list"
theorem tyR_ne (d : D) (c : Nat) : tyR d ≠ .exc c := by
  cases d <;> (intro z; cases z)
theorem tyR_rp {K : Fg} {H : Hp} {d : D} {v : V} {t : String} (h : tyR d = .ok t) (r : Rp K H d v) : TyX K H v (.type t) := by
  cases d with
  | none => cases h; unfold Rp at r; subst r; exact .base .non
  | bool b => cases h; unfold Rp at r; subst r; exact .base (.bl b)
  | int i => cases h; unfold Rp at r; subst r; exact .base (.int i)
  | str l => cases h; unfold Rp at r; subst r; exact .base (.str _)
  | list l => cases h; obtain ⟨a, xs, rfl, ha, _⟩ := rp_list r; exact .base (.lst ha)
  | tuple l => cases h; obtain ⟨a, xs, rfl, ha, _⟩ := rp_tupH r; exact .base (.tup ha)
  | dicK ks vs => cases h
  | dicT ks vs => cases h
  | scr ns => cases h
  | adr _ => cases h
  | obj _ _ _ _ => cases h
  | fzl l => cases h; unfold Rp at r; obtain ⟨a, o, xs, rfl, ha, _⟩ := r; exact .base (.frz ha)
def tys : List String := ["NoneType", "bool", "int", "str", "list", "tuple", "dict"]
theorem tyR_mem {d : D} {t : String} (h : tyR d = .ok t) : t ∈ tys := by
  cases d <;> cases h <;> decide
/-- t is c or below it -/
def isT (t c : String) : Bool := t == c || (t == "bool" && c == "int")
/-- a class that may be asked for -/
def Cla (c : String) : Prop := ∀ t ∈ tys, kitB t c = some (isT t c)
theorem cla_tuple : Cla "tuple" := by unfold Cla; decide +kernel
theorem cla_bool : Cla "bool" := by unfold Cla; decide +kernel
theorem cla_int : Cla "int" := by unfold Cla; decide +kernel
theorem cla_str : Cla "str" := by unfold Cla; decide +kernel
theorem cla_list : Cla "list" := by unfold Cla; decide +kernel
section
variable {X : Cx} {cl : Nat → Addr} {W : WX} {e : Expr} {te : TE} {f : Dv → Res D} {pos p pc pt : Pos} {c c2 : Str} {k : Nat}
def isOf (cs : List String) (d : D) : Res D := (tyR d).bind fun t => .ok (.bool (cs.any fun c => isT t c))
def dIsi (cs : List String) (f : Dv → Res D) : Dv → Res D := fun δ => (f δ).bind (isOf cs)
theorem q_isi1 {T : String} (hT : Cla T) (hm : X.mg "isinstance" = none) (he : QE X cl W e te f) (hc : X.mg c = none) (hv : bootBuiltins c = some (.type T)) (hg : Gl X "isinstance" := by rfl) (hgc : Gl X c := by rfl) (hn : c ≠ "__name__" := by decide) (hdb : (c == ("__debug__" : Str)) = false := by decide)
    (h1 : starEach [e, .Name c pc] X.env = (false, eval e X.env) :: starEach [.Name c pc] X.env := by rfl) (h2 : starEach [.Name c pc] X.env = (false, eval (.Name c pc) X.env) :: starEach [] X.env := by rfl) (hpl : (backTo pos (starEach [.Name c pc] X.env)).any (·.1) = false := by rfl) :
    QF X cl W (.Call (.Name "isinstance" p) [e, .Name c pc] [] pos) (tCB (rIsi X.K) (tCons te (tCons (tC (.ty T)) tNil))) (dIsi [T] f) := by
  refine ⟨pe_callB call_isi hg hm (by decide +kernel) (pa_cons he.pe (pa_cons (pe_bltn hgc hc hv rfl hn hdb) pa_nil h2) h1) (by decide) (by decide) h1 hpl, fun δ σ H Q en po => ?_⟩
  show te σ H _
  refine he.sim.chain (P := fun H r => PostF X.K cl W σ H r Q) en po (fun c h => h) (fun H h => h) fun d v H1 _ s1 r1 p1 => ?_
  have p2 := p1.weak s1
  unfold isOf at p2
  cases q : tyR d with
  | exc n => exact (tyR_ne _ _ q).elim
  | stuck => rw [q] at p2; exact p2.elim
  | ok t =>
    rw [q, Res.ok_bind] at p2
    refine ⟨v, .ty T, _, _, isT t T, rfl, .ty T, tyR_rp q r1, kit_ty (hT t (tyR_mem q)), ?_⟩
    have z := p2 (.bl (isT t T)) H1 (Same.refl H1)
    rw [List.any_cons, List.any_nil, Bool.or_false] at z
    exact z (rpb _) (fresh_no rfl)
theorem q_isi2 {T T2 : String} (hT : Cla T) (hT2 : Cla T2) (hm : X.mg "isinstance" = none) (he : QE X cl W e te f) (hc : X.mg c = none) (hv : bootBuiltins c = some (.type T)) (hc2 : X.mg c2 = none) (hv2 : bootBuiltins c2 = some (.type T2)) (hg : Gl X "isinstance" := by rfl) (hgc : Gl X c := by rfl) (hgc2 : Gl X c2 := by rfl) (hn : c ≠ "__name__" := by decide) (hdb : (c == ("__debug__" : Str)) = false := by decide) (hn2 : c2 ≠ "__name__" := by decide) (hdb2 : (c2 == ("__debug__" : Str)) = false := by decide)
    (h1 : starEach [e, .Tuple [.Name c pc, .Name c2 pc'] k pt] X.env = (false, eval e X.env) :: starEach [.Tuple [.Name c pc, .Name c2 pc'] k pt] X.env := by rfl) (h2 : starEach [.Tuple [.Name c pc, .Name c2 pc'] k pt] X.env = (false, eval (.Tuple [.Name c pc, .Name c2 pc'] k pt) X.env) :: starEach [] X.env := by rfl)
    (hpl : (backTo pos (starEach [.Tuple [.Name c pc, .Name c2 pc'] k pt] X.env)).any (·.1) = false := by rfl) (h3 : starEach [.Name c pc, .Name c2 pc'] X.env = (false, eval (.Name c pc) X.env) :: starEach [.Name c2 pc'] X.env := by rfl) (h4 : starEach [.Name c2 pc'] X.env = (false, eval (.Name c2 pc') X.env) :: starEach [] X.env := by rfl) :
    QF X cl W (.Call (.Name "isinstance" p) [e, .Tuple [.Name c pc, .Name c2 pc'] k pt] [] pos) (tCB (rIsiT X.K) (tCons te (tCons (tTup (tCons (tC (.ty T)) (tCons (tC (.ty T2)) tNil))) tNil))) (dIsi [T, T2] f) := by
  refine ⟨pe_callB call_isiT hg hm (by decide +kernel) (pa_cons he.pe (pa_cons (pe_tup (pa_cons (pe_bltn hgc hc hv rfl hn hdb) (pa_cons (pe_bltn hgc2 hc2 hv2 rfl hn2 hdb2) pa_nil h4) h3)) pa_nil h2) h1) (by decide) (by decide) h1 hpl, fun δ σ H Q en po => ?_⟩
  show te σ H _
  refine he.sim.chain (P := fun H r => PostF X.K cl W σ H r Q) en po (fun c h => h) (fun H h => h) fun d v H1 _ s1 r1 p1 => ?_
  have p2 := p1.weak s1
  unfold isOf at p2
  cases q : tyR d with
  | exc n => exact (tyR_ne _ _ q).elim
  | stuck => rw [q] at p2; exact p2.elim
  | ok t =>
    rw [q, Res.ok_bind] at p2
    refine ⟨by show 2 ≤ sizeLine; decide, fun pp hp => ?_⟩
    have sm := same_new (o := .tup [V.ty T, V.ty T2]) hp
    refine ⟨v, pp, _, _, _, isT t T || isT t T2, rfl, upd_same, .cons (.ty T) (.cons (.ty T2) .nil), tyR_rp q (Rp.mono sm _ _ r1), kitAny_cons (b := isT t T) (kit_ty (hT t (tyR_mem q))) (fun hb => ?_) (fun hb => by rw [hb]; rfl), ?_⟩
    · rw [hb, Bool.false_or]
      exact kitAny_cons (b := isT t T2) (kit_ty (hT2 t (tyR_mem q))) (fun hb2 => by rw [hb2]; exact kitAny_nil) (fun hb2 => hb2)
    · have z := p2 (.bl (isT t T || isT t T2)) _ sm
      rw [List.any_cons, List.any_cons, List.any_nil, Bool.or_false] at z
      exact z (rpb _) (fresh_no rfl)
def isNon : D → Bool
  | .none => true
  | _ => false
def oIsN (d e : D) : Res D := match e with
  | .none => .ok (.bool (isNon d))
  | _ => .stuck
theorem oIsN_ne (d e : D) : noExc (oIsN d e) := by
  unfold oIsN
  split
  · exact ok_noExc
  · exact stuck_noExc
theorem isNon_rp {K : Fg} {H : Hp} {d : D} {v : V} (r : Rp K H d v) : decide (v = .non) = isNon d := by
  cases d with
  | none => unfold Rp at r; subst r; rfl
  | bool b => unfold Rp at r; subst r; rfl
  | int i => unfold Rp at r; subst r; rfl
  | str l => unfold Rp at r; subst r; rfl
  | list l => obtain ⟨a, xs, rfl, _⟩ := rp_list r; rfl
  | tuple l => obtain ⟨a, xs, rfl, _⟩ := rp_tup r; rfl
  | dicK ks vs => unfold Rp at r; obtain ⟨a, kvs, rfl, _⟩ := r; rfl
  | dicT ks vs => unfold Rp at r; obtain ⟨a, kvs, rfl, _⟩ := r; rfl
  | scr ns => unfold Rp at r; obtain ⟨a, rfl, _⟩ := r; rfl
  | adr a => unfold Rp at r; subst r; rfl
  | obj a ft c fs => unfold Rp at r; obtain ⟨rfl, _⟩ := r; rfl
  | fzl l => unfold Rp at r; obtain ⟨a, o, xs, rfl, _⟩ := r; rfl
theorem sim_isN {K : Fg} : SimR K cl rIsN oIsN := by
  intro x y d e2 σ H Q ra rb po
  unfold oIsN at po
  split at po
  · unfold Rp at rb
    refine ⟨rb, ?_⟩
    rw [isNon_rp ra]
    exact po _ H (Same.refl H) (rpb _) (fresh_no rfl)
  · exact po.elim
variable {a b : Expr} {ta tb : TE} {h : Dv → Res D}
theorem q_isN (ha : QE X cl W a ta f) (hb : QE X cl W b tb h) (hm : behindInMarks .Is b = false := by rfl) : QF X cl W (.Compare a [.Is] [b] pos) (tOp rIsN ta tb) (d2 oIsN f h) := q_cmp op_isN sim_isN oIsN_ne ha hb hm
theorem t_isN (ha : QE X cl W a ta f) (hb : QE X cl W b tb h) (hm : behindInMarks .Is b = false := by rfl) : QT X cl W (.Compare a [.Is] [b] pos) (tTest (tOp rIsN ta tb)) (dB (d2 oIsN f h)) := qt_cmp op_isN sim_isN oIsN_ne ha hb hm
end
end DL
namespace DL
open PySem L2
/-! ### zip of two lists, of two tuples -/
def zipD : List D → List D → List D
  | a :: l, b :: m => .tuple [a, b] :: zipD l m
  | _, _ => []
theorem zipD_len : ∀ l m : List D, (zipD l m).length = min l.length m.length
  | [], m => by simp [zipD]
  | a :: l, [] => by simp [zipD]
  | a :: l, b :: m => by
    simp only [zipD, List.length_cons, zipD_len l m]
    omega
theorem zipD_get : ∀ {l m : List D} {i : Nat} {a b : D}, l[i]? = some a → m[i]? = some b → (zipD l m)[i]? = some (.tuple [a, b])
  | [], m, i, a, b, h, _ => by simp at h
  | x :: l, [], i, a, b, _, h => by simp at h
  | x :: l, y :: m, 0, a, b, h, h2 => by
    simp at h h2
    subst h h2
    rfl
  | x :: l, y :: m, i + 1, a, b, h, h2 => by
    show (zipD l m)[i]? = _
    exact zipD_get (by simpa using h) (by simpa using h2)
section
variable {K : Fg} {B : Hp} {a b : Addr} {xs ys : List V} {l m : List D}
theorem walkD_zL (h1 : SqL K B a xs) (h2 : SqL K B b ys) (r1 : RpAll K B l xs) (r2 : RpAll K B m ys) : WalkD K B (Itz K a b) (zipD l m) := by
  have w := walk_zip (K := K) (a := a) (b := b) (xs := xs) (ys := ys) (n := (zipD l m).length) (by rw [zipD_len, r1.length, r2.length])
  refine ⟨_, _, w, fun H s => ⟨same_l s h1, same_l s h2⟩, fun i H x H2 hi s y => ?_⟩
  obtain ⟨T, u, v, rfl, hT, rfl, hu, hv⟩ := y
  obtain ⟨d1, g1, q1⟩ := r1.get hu
  obtain ⟨d2, g2, q2⟩ := r2.get hv
  have sm : Same H (upd H T (.tup [u, v])) := same_new hT
  exact ⟨sm, _, zipD_get g1 g2, rpt upd_same (.cons (Rp.mono (s.trans sm) _ _ q1) (.cons (Rp.mono (s.trans sm) _ _ q2) .nil))⟩
theorem walk_zipT {n : Nat} (hn : n = min xs.length ys.length) : Walk (RZ.ItzT K a b) n (fun H => SqT K H a xs ∧ SqT K H b ys) (YPair (fun i => xs[i]?) (fun i => ys[i]?)) := by
  subst hn
  refine ⟨fun i _ hi q => ?_, fun _ q => ⟨xs, ys, q.1, q.2, by omega⟩, fun i H v H2 _ q y => ?_⟩
  · have g1 : i < xs.length := by omega
    have g2 : i < ys.length := by omega
    exact ⟨xs, ys, xs[i], ys[i], q.1, q.2, by simp [g1], by simp [g2]⟩
  · obtain ⟨T, x, z, e1, e2, e3, e4, e5⟩ := y
    exact ⟨T, x, z, e1, e2, e3, e4 xs q.1, e5 ys q.2⟩
theorem walkD_zT (h1 : SqT K B a xs) (h2 : SqT K B b ys) (r1 : RpAll K B l xs) (r2 : RpAll K B m ys) : WalkD K B (RZ.ItzT K a b) (zipD l m) := by
  have w := walk_zipT (K := K) (a := a) (b := b) (xs := xs) (ys := ys) (n := (zipD l m).length) (by rw [zipD_len, r1.length, r2.length])
  refine ⟨_, _, w, fun H s => ⟨same_t s h1, same_t s h2⟩, fun i H x H2 hi s y => ?_⟩
  obtain ⟨T, u, v, rfl, hT, rfl, hu, hv⟩ := y
  obtain ⟨d1, g1, q1⟩ := r1.get hu
  obtain ⟨d2, g2, q2⟩ := r2.get hv
  have sm : Same H (upd H T (.tup [u, v])) := same_new hT
  exact ⟨sm, _, zipD_get g1 g2, rpt upd_same (.cons (Rp.mono (s.trans sm) _ _ q1) (.cons (Rp.mono (s.trans sm) _ _ q2) .nil))⟩
end
section
variable {X : Cx} {cl : Nat → Addr} {W : WX} {e e2 : Expr} {ta : TA} {gs : Dv → Res (List D)} {p pos tpos : Pos} {elts : List Expr} {kk : Nat}
def iZipJ : List D → Res (List D)
  | [.list l, .list m] => .ok (zipD l m)
  | [.tuple l, .tuple m] => .ok (zipD l m)
  | _ => .stuck
/-- .. in a for: tuples alone -/
def iZipI : List D → Res (List D)
  | [.tuple l, .tuple m] => Res.need (immAll l = true ∧ immAll m = true) (.ok (zipD l m))
  | _ => .stuck
theorem j_zip (hm : X.mg "zip" = none) (ha : QA X cl W [e, e2] ta gs) (hg : Gl X "zip" := by rfl) (hs : starEach [e, e2] X.env = (false, eval e X.env) :: starEach [e2] X.env := by rfl) (hpl : (backTo pos (starEach [e2] X.env)).any (·.1) = false := by rfl) :
    QJ X cl W (.Tuple elts kk tpos) (.Call (.Name "zip" p) [e, e2] [] pos) (RZ.iZipA X.K ta) (fun δ => (gs δ).bind iZipJ) := by
  refine ⟨RZ.pi_zipA hg hm ha.pe hs hpl, fun δ σ H R en po => ?_⟩
  show ta σ H _
  refine ha.sim δ σ H _ en ?_
  change ((gs δ).bind iZipJ).on _ _ at po
  cases r : gs δ with
  | exc c => rw [r] at po; exact po
  | stuck => rw [r] at po; exact po
  | ok ds =>
    rw [r, Res.ok_bind] at po
    intro vs H1 s rp
    unfold iZipJ at po
    split at po
    · obtain ⟨v, w, rfl, hv, hw⟩ := rp.two
      obtain ⟨a, xs, rfl, h1, hx⟩ := rp_list hv
      obtain ⟨b, ys, rfl, h2, hy⟩ := rp_list hw
      exact ⟨a, b, xs, ys, rfl, .inl ⟨Or.inl (Or.inl h1), Or.inl (Or.inl h2), po _ H1 s (walkD_zL (Or.inl (Or.inl h1)) (Or.inl (Or.inl h2)) hx hy)⟩⟩
    · obtain ⟨v, w, rfl, hv, hw⟩ := rp.two
      obtain ⟨a, xs, rfl, h1, hx⟩ := rp_tup hv
      obtain ⟨b, ys, rfl, h2, hy⟩ := rp_tup hw
      exact ⟨a, b, xs, ys, rfl, .inr ⟨h1, h2, po _ H1 s (walkD_zT h1 h2 hx hy)⟩⟩
    · exact po.elim
theorem i_zip (hm : X.mg "zip" = none) (ha : QA X cl W [e, e2] ta gs) (hg : Gl X "zip" := by rfl) (hs : starEach [e, e2] X.env = (false, eval e X.env) :: starEach [e2] X.env := by rfl) (hpl : (backTo pos (starEach [e2] X.env)).any (·.1) = false := by rfl) :
    QI X cl W (.Tuple elts kk tpos) (.Call (.Name "zip" p) [e, e2] [] pos) (RZ.iZipA X.K ta) (fun δ => (gs δ).bind iZipI) := by
  refine ⟨RZ.pi_zipA hg hm ha.pe hs hpl, fun δ σ H R en po => ?_⟩
  show ta σ H _
  refine ha.sim δ σ H _ en ?_
  change ((gs δ).bind iZipI).on _ _ at po
  cases r : gs δ with
  | exc c => rw [r] at po; exact po
  | stuck => rw [r] at po; exact po
  | ok ds =>
    rw [r, Res.ok_bind] at po
    intro vs H1 s rp
    unfold iZipI at po
    split at po
    · obtain ⟨⟨c1, c2⟩, po⟩ := need_on po
      obtain ⟨v, w, rfl, hv, hw⟩ := rp.two
      obtain ⟨a, xs, rfl, h1, hx⟩ := rp_tup hv
      obtain ⟨b, ys, rfl, h2, hy⟩ := rp_tup hw
      exact ⟨a, b, xs, ys, rfl, .inr ⟨h1, h2, po _ H1 s fun M bM => walkD_zT (hide_t (fun b hb => (bM b hb).mono s) h1) (hide_t (fun b hb => (bM b hb).mono s) h2) (RpAll.hide (fun b hb => (bM b hb).mono s) _ xs c1 hx) (RpAll.hide (fun b hb => (bM b hb).mono s) _ ys c2 hy)⟩⟩
    · exact po.elim
end
end DL
namespace DL
open PySem L2
/-! ### recursion: what is promised of nothing holds -/
theorem ok_stuck {P : Program} {w : World} {K : Fg} {mg : Str → Option Value} {base : Heap} {cl : Nat → Addr} {k n : Nat} {f : Addr} {fd : FuncData} {ps : List Str} {CX : CXT} : FnOk P w K mg base CX k f fd ps (spD K cl n fun _ => .stuck) :=
  ⟨fun vs H Q E h => by
    obtain ⟨ds, _, _, z⟩ := h
    exact z.elim, fun A outer s H args us vs Q E hr _ _ _ h => by
    obtain ⟨ds, _, _, z⟩ := h
    exact z.elim⟩
end DL
namespace DL
open PySem L2
/-! ### statements that are run over data -/
inductive Out where
  | nx (ε : Env)
  | rt (d : D)
  | ex (c : Nat) (ε : Env)
  | bk (ε : Env)
  | ct (ε : Env)
  | stuck
abbrev XS := Env → Out
def Out.to (o : Out) (d : DE) : Prop := match o with
  | .nx ε => d.nx ε
  | .rt x => d.rt x
  | .ex c ε => d.ex c ε
  | .bk ε => d.bk ε
  | .ct ε => d.ct ε
  | .stuck => False
/-- what a def comes to -/
def Out.res (o : Out) : Res D := match o with
  | .nx _ => .ok .none
  | .rt x => .ok x
  | .ex c _ => .exc c
  | _ => .stuck
def gOf (x : XS) : DS := fun d ε => (x ε).to d
def Snd (g : DS) (x : XS) : Prop := ∀ d ε, (x ε).to d → g d ε
/-- r, then more -/
def Res.thn {α : Type} (r : Res α) (ε : Env) (k : α → Out) : Out := match r with
  | .ok a => k a
  | .exc c => .ex c ε
  | .stuck => .stuck
@[simp] theorem Res.ok_thn {α : Type} (a : α) (ε : Env) (k : α → Out) : (Res.ok a).thn ε k = k a := rfl
@[simp] theorem Res.exc_thn {α : Type} (c : Nat) (ε : Env) (k : α → Out) : (Res.exc c : Res α).thn ε k = .ex c ε := rfl
@[simp] theorem Res.stuck_thn {α : Type} (ε : Env) (k : α → Out) : (Res.stuck : Res α).thn ε k = .stuck := rfl
theorem Res.thn_to {α : Type} {r : Res α} {ε : Env} {k : α → Out} {d : DE} (h : (r.thn ε k).to d) : r.on (fun a => (k a).to d) (fun c => d.ex c ε) := by
  cases r with
  | ok a => exact h
  | exc c => exact h
  | stuck => exact h
theorem Res.on_mono {α : Type} {r : Res α} {k k2 : α → Prop} {e : Nat → Prop} (h : r.on k e) (m : ∀ a, k a → k2 a) : r.on k2 e := by
  cases r with
  | ok a => exact m a h
  | exc c => exact h
  | stuck => exact h
def Out.need (c : Prop) [Decidable c] (o : Out) : Out := if c then o else .stuck
theorem Out.need_ok {c : Prop} [Decidable c] (h : c) (o : Out) : Out.need c o = o := if_pos h
theorem Out.need_to {c : Prop} [Decidable c] {o : Out} {d : DE} (h : (Out.need c o).to d) : c ∧ o.to d := by
  unfold Out.need at h
  split at h
  · exact ⟨by assumption, h⟩
  · exact h.elim
instance {m : Bool} {x : D} : Decidable (okM m x) := by unfold okM; infer_instance
/-! the statements -/
def xNext : XS := fun ε => .nx ε
def xSeq (x y : XS) : XS := fun ε => match x ε with
  | .nx ε' => y ε'
  | o => o
def xSet (i : Nat) (f : Dv → Res D) : XS := fun ε => (f (view ε)).thn ε fun v => Out.need (i < ε.length ∧ calm v = true) (.nx (ε.set i (some (.fz v))))
def xOwn (i : Nat) (f : Dv → Res D) : XS := fun ε => (f (view ε)).thn ε fun v => Out.need (i < ε.length ∧ isBox v = true ∧ notScr v = true ∧ calm v = true) (.nx (ε.set i (some (.ow v))))
def xIf (f : Dv → Res Bool) (x y : XS) : XS := fun ε => (f (view ε)).thn ε fun b => if b = true then x ε else y ε
def xRet (f : Dv → Res D) : XS := fun ε => (f (view ε)).thn ε fun v => .rt v
def xRetN : XS := fun _ => .rt .none
def xRaise (n : Nat) : XS := fun ε => .ex n ε
def xBreak : XS := fun ε => .bk ε
def xCont : XS := fun ε => .ct ε
def xDrop (f : Dv → Res D) : XS := fun ε => (f (view ε)).thn ε fun _ => .nx ε
def ownAt (ε : Env) (i : Nat) : Option D := match ε[i]? with
  | some (some (.ow x)) => some x
  | _ => none
theorem ownAt_some {ε : Env} {i : Nat} {x : D} (h : ownAt ε i = some x) : ε[i]? = some (some (.ow x)) := by
  unfold ownAt at h
  split at h
  · rename_i y e
    cases h
    exact e
  · cases h
def fzAt (ε : Env) (i : Nat) : Option D := match ε[i]? with
  | some (some (.fz x)) => some x
  | _ => none
theorem fzAt_some {ε : Env} {i : Nat} {x : D} (h : fzAt ε i = some x) : ε[i]? = some (some (.fz x)) := by
  unfold fzAt at h
  split at h
  · rename_i y e
    cases h
    exact e
  · cases h
def xRetOwn (i : Nat) : XS := fun ε => match ownAt ε i with
  | some x => .rt x
  | none => .stuck
def xFz (i : Nat) (x : XS) : XS := fun ε => match ownAt ε i with
  | some v => x (ε.set i (some (.fz v)))
  | none => .stuck
def xPar (i j : Nat) (m n : Bool) (f h : Dv → Res D) : XS := fun ε => (f (view ε)).thn ε fun x => (h (view ε)).thn ε fun y => Out.need (i < ε.length ∧ j < ε.length ∧ okM m x ∧ okM n y) (.nx ((ε.set i (mk m x)).set j (mk n y)))
def xApp (i : Nat) (f : Dv → Res D) : XS := fun ε => match ownAt ε i with
  | some (.list l) => Out.need (immAll l = true) ((f (view ε)).thn ε fun x => Out.need (imm x = true ∧ l.length < big) (.nx (ε.set i (some (.ow (.list (l ++ [x])))))))
  | _ => .stuck
def xExt (i : Nat) (f : Dv → Res D) : XS := fun ε => match ownAt ε i with
  | some (.list l) => Out.need (immAll l = true) ((f (view ε)).thn ε fun x => match x with
    | .list m => Out.need (immAll m = true ∧ l.length + m.length ≤ big) (.nx (ε.set i (some (.ow (.list (l ++ m))))))
    | _ => .stuck)
  | _ => .stuck
def strsOf : List D → Option (List (List Nat))
  | [] => some []
  | .str s :: r => (strsOf r).map (s :: ·)
  | _ :: _ => none
theorem strsOf_map (l : List (List Nat)) : strsOf (l.map D.str) = some l := by
  induction l with
  | nil => rfl
  | cons a l ih => simp [strsOf, ih]
theorem strsOf_some : ∀ {l : List D} {bs : List (List Nat)}, strsOf l = some bs → l = bs.map D.str
  | [], bs, h => by cases h; rfl
  | d :: r, bs, h => by
    cases d with
    | str s =>
      unfold strsOf at h
      cases e : strsOf r with
      | none => rw [e] at h; cases h
      | some cs =>
        rw [e] at h
        cases h
        rw [List.map_cons, strsOf_some e]
    | _ => cases h
def xRem (i : Nat) (f : Dv → Res D) : XS := fun ε => match ownAt ε i with
  | some (.list l) => match strsOf l with
    | some bs => (f (view ε)).thn ε fun x => match x with
      | .str b => Out.need (b ∈ bs) (.nx (ε.set i (some (.ow (.list ((bs.erase b).map D.str))))))
      | _ => .stuck
    | none => .stuck
  | _ => .stuck
def xPut (i : Nat) (fk fv : Dv → Res D) : XS := fun ε => match ownAt ε i with
  | some e => (fv (view ε)).thn ε fun x => Out.need (imm x = true) ((fk (view ε)).thn ε fun k => match putR e k x with
    | some e2 => Out.need (lenD e < big) (.nx (ε.set i (some (.ow e2))))
    | none => .stuck)
  | none => .stuck
def xNewK (i : Nat) : XS := fun ε => Out.need (i < ε.length) (.nx (ε.set i (some (.ow (.dicK [] [])))))
def xNewT (i : Nat) : XS := fun ε => Out.need (i < ε.length) (.nx (ε.set i (some (.ow (.dicT [] [])))))
/-- one turn of a loop -/
def xTurn (k : D → Env → Option Env) (b : XS) (x : D) (ε : Env) : Out := if imm x = true then match k x ε with
    | some ε2 => b ε2
    | none => .stuck
  else .stuck
def xLoop (k : D → Env → Option Env) (b : XS) : List D → XS
  | [], ε => .nx ε
  | x :: r, ε => match xTurn k b x ε with
    | .nx ε' => xLoop k b r ε'
    | .ct ε' => xLoop k b r ε'
    | .bk ε' => .nx ε'
    | o => o
def xFor (f : Dv → Res (List D)) (k : D → Env → Option Env) (b : XS) : XS := fun ε => (f (view ε)).thn ε fun xs => xLoop k b xs ε
def xForN (i : Nat) (k : D → Env → Option Env) (b : XS) : XS := fun ε => match fzAt ε i with
  | some y => match items y with
    | .ok xs => xLoop k b xs ε
    | _ => .stuck
  | none => .stuck
def xWh (f : Dv → Res Bool) (b : XS) : Nat → XS
  | 0, _ => .stuck
  | n + 1, ε => (f (view ε)).thn ε fun t => if t = true then (match b ε with
      | .nx ε' => xWh f b n ε'
      | .ct ε' => xWh f b n ε'
      | .bk ε' => .nx ε'
      | o => o) else .nx ε
open Classical in
/-- as many turns as it needs -/
noncomputable def xWhile (f : Dv → Res Bool) (b : XS) : XS := fun ε => if h : ∃ n, xWh f b n ε ≠ .stuck then xWh f b h.choose ε else .stuck
/-- slots forgotten -/
def wipeE (ε : Env) : List Nat → Env
  | [] => ε
  | v :: vs => (wipeE ε vs).set v none
/-- .. behind a statement -/
def xWp (vs : List Nat) (x : XS) : XS := fun ε => match x ε with
  | .nx ε' => .nx (wipeE ε' vs)
  | .ct ε' => .ct (wipeE ε' vs)
  | .bk ε' => .bk (wipeE ε' vs)
  | o => o
/-! each is right -/
section
variable {g k : DS} {x y : XS} {f h fk fv : Dv → Res D} {fb : Dv → Res Bool} {i j : Nat}
theorem snd_gOf : Snd (gOf x) x := fun _ _ h => h
theorem snd_next : Snd gNext xNext := fun _ _ h => h
theorem snd_seq (h1 : Snd g x) (h2 : Snd k y) : Snd (gSeq g k) (xSeq x y) := fun d ε hh => by
  refine h1 _ ε ?_
  unfold xSeq at hh
  cases e : x ε with
  | nx ε' => rw [e] at hh; exact h2 d ε' hh
  | _ => rw [e] at hh; exact hh
theorem snd_set : Snd (gSet i f) (xSet i f) := fun d ε hh => Res.on_mono (Res.thn_to hh) fun v z => by
  obtain ⟨⟨h1, h2⟩, h3⟩ := Out.need_to z
  exact ⟨h1, h2, h3⟩
theorem snd_own : Snd (gOwn i f) (xOwn i f) := fun d ε hh => Res.on_mono (Res.thn_to hh) fun v z => by
  obtain ⟨⟨h1, h2, h3, h4⟩, h5⟩ := Out.need_to z
  exact ⟨h1, h2, h3, h4, h5⟩
theorem snd_if (h1 : Snd g x) (h2 : Snd k y) : Snd (gIf fb g k) (xIf fb x y) := fun d ε hh => Res.on_mono (Res.thn_to hh) fun b z => by
  cases b with
  | true => exact h1 d ε z
  | false => exact h2 d ε z
theorem snd_ret : Snd (gRet f) (xRet f) := fun d ε hh => Res.on_mono (Res.thn_to hh) fun _ z => z
theorem snd_retN : Snd (fun d _ => d.rt .none) xRetN := fun d ε hh => hh
theorem snd_raise {n : Nat} : Snd (fun d ε => d.ex n ε) (xRaise n) := fun d ε hh => hh
theorem snd_break : Snd (fun d ε => d.bk ε) xBreak := fun d ε hh => hh
theorem snd_cont : Snd (fun d ε => d.ct ε) xCont := fun d ε hh => hh
theorem snd_drop : Snd (gDrop f) (xDrop f) := fun d ε hh => Res.on_mono (Res.thn_to hh) fun _ z => z
theorem snd_retOwn : Snd (gRetOwn i) (xRetOwn i) := fun d ε hh => by
  unfold xRetOwn at hh
  split at hh
  · rename_i v e
    exact ⟨v, ownAt_some e, hh⟩
  · exact hh.elim
theorem snd_fz (h1 : Snd g x) : Snd (gFz i g) (xFz i x) := fun d ε hh => by
  unfold xFz at hh
  split at hh
  · rename_i v e
    exact ⟨v, ownAt_some e, h1 d _ hh⟩
  · exact hh.elim
theorem snd_par {m n : Bool} : Snd (gPar i j m n f h) (xPar i j m n f h) := fun d ε hh => Res.on_mono (Res.thn_to hh) fun v z => Res.on_mono (Res.thn_to z) fun u z => by
  obtain ⟨h1, h2⟩ := Out.need_to z
  exact ⟨h1, h2⟩
theorem snd_app : Snd (gApp i f) (xApp i f) := fun d ε hh => by
  unfold xApp at hh
  split at hh
  · rename_i l e
    obtain ⟨h0, hh⟩ := Out.need_to hh
    exact ⟨l, ownAt_some e, h0, Res.on_mono (Res.thn_to hh) fun v z => by
      obtain ⟨⟨h1, h2⟩, h3⟩ := Out.need_to z
      exact ⟨h1, h2, h3⟩⟩
  · exact hh.elim
theorem snd_ext : Snd (gExt i f) (xExt i f) := fun d ε hh => by
  unfold xExt at hh
  split at hh
  · rename_i l e
    obtain ⟨h0, hh⟩ := Out.need_to hh
    refine ⟨l, ownAt_some e, h0, Res.on_mono (Res.thn_to hh) fun v z => ?_⟩
    split at z
    · obtain ⟨⟨h1, h2⟩, h3⟩ := Out.need_to z
      exact ⟨_, rfl, h1, h2, h3⟩
    · exact z.elim
  · exact hh.elim
theorem snd_rem : Snd (gRem i f) (xRem i f) := fun d ε hh => by
  unfold xRem at hh
  split at hh
  · rename_i l e
    split at hh
    · rename_i bs eb
      cases strsOf_some eb
      refine ⟨bs, ownAt_some e, Res.on_mono (Res.thn_to hh) fun v z => ?_⟩
      split at z
      · obtain ⟨h1, h3⟩ := Out.need_to z
        exact ⟨_, rfl, h1, h3⟩
      · exact z.elim
    · exact hh.elim
  · exact hh.elim
theorem snd_put : Snd (gPut i fk fv) (xPut i fk fv) := fun d ε hh => by
  unfold xPut at hh
  split at hh
  · rename_i v e
    refine ⟨v, ownAt_some e, Res.on_mono (Res.thn_to hh) fun u z => ?_⟩
    obtain ⟨h0, z⟩ := Out.need_to z
    refine ⟨h0, Res.on_mono (Res.thn_to z) fun k z => ?_⟩
    split at z
    · rename_i e2 q
      obtain ⟨h1, h2⟩ := Out.need_to z
      exact ⟨e2, q, h1, h2⟩
    · exact z.elim
  · exact hh.elim
theorem snd_newK : Snd (gNewD i) (xNewK i) := fun d ε hh => by
  obtain ⟨h1, h2⟩ := Out.need_to hh
  exact ⟨h1, .inl h2⟩
theorem snd_newT : Snd (gNewD i) (xNewT i) := fun d ε hh => by
  obtain ⟨h1, h2⟩ := Out.need_to hh
  exact ⟨h1, .inr h2⟩
variable {kk : D → Env → Option Env} {fi : Dv → Res (List D)}
theorem loop_to (h1 : Snd g x) {d : DE} {xs : List D} {ε : Env} (hh : (xLoop kk x xs ε).to d) : ∃ I : Nat → Env → Prop, I 0 ε ∧
  (∀ i v ε', xs[i]? = some v → I i ε' → imm v = true ∧ ∃ ε2, kk v ε' = some ε2 ∧ g { d with nx := I (i + 1), ct := I (i + 1), bk := d.nx } ε2) ∧ ∀ ε', I xs.length ε' → d.nx ε' := by
  refine ⟨fun j ε' => (xLoop kk x (xs.drop j) ε').to d, hh, fun i v ε' hv hi => ?_, fun ε' hi => ?_⟩
  · have e : xs.drop i = v :: xs.drop (i + 1) := by
      obtain ⟨hl, rfl⟩ := List.getElem?_eq_some_iff.mp hv
      exact List.drop_eq_getElem_cons hl
    change (xLoop kk x (xs.drop i) ε').to d at hi
    rw [e] at hi
    unfold xLoop xTurn at hi
    by_cases hm : imm v = true
    · rw [if_pos hm] at hi
      refine ⟨hm, ?_⟩
      cases ek : kk v ε' with
      | none => rw [ek] at hi; exact hi.elim
      | some ε2 =>
        rw [ek] at hi
        refine ⟨ε2, rfl, h1 _ _ ?_⟩
        change (match x ε2 with
          | .nx ε' => xLoop kk x (xs.drop (i + 1)) ε'
          | .ct ε' => xLoop kk x (xs.drop (i + 1)) ε'
          | .bk ε' => .nx ε'
          | o => o).to d at hi
        cases eb : x ε2 with
        | nx ε3 => rw [eb] at hi; exact hi
        | ct ε3 => rw [eb] at hi; exact hi
        | bk ε3 => rw [eb] at hi; exact hi
        | rt v => rw [eb] at hi; exact hi
        | ex c ε3 => rw [eb] at hi; exact hi
        | stuck => rw [eb] at hi; exact hi
    · rw [if_neg hm] at hi
      exact hi.elim
  · change (xLoop kk x (xs.drop xs.length) ε').to d at hi
    rw [List.drop_length] at hi
    exact hi
theorem snd_for (h1 : Snd g x) : Snd (gFor fi kk g) (xFor fi kk x) := fun d ε hh => Res.on_mono (Res.thn_to hh) fun xs z => loop_to h1 z
theorem snd_forN (h1 : Snd g x) : Snd (gForN i kk g) (xForN i kk x) := fun d ε hh => by
  unfold xForN at hh
  split at hh
  · rename_i y e
    refine ⟨y, fzAt_some e, ?_⟩
    split at hh
    · rename_i xs q
      rw [q]
      exact loop_to h1 hh
    · exact hh.elim
  · exact hh.elim
theorem snd_while (h1 : Snd g x) : Snd (gWhile fb g) (xWhile fb x) := fun d ε hh => by
  unfold xWhile at hh
  split at hh
  · rename_i hx
    refine ⟨fun m ε' => (xWh fb x m ε').to d, ⟨_, hh⟩, fun m ε' hi => ?_⟩
    cases m with
    | zero => exact hi.elim
    | succ m =>
      refine Res.on_mono (Res.thn_to hi) fun b z => ?_
      cases b with
      | true =>
        rw [if_pos rfl] at z ⊢
        refine ⟨fun ε2 => (xWh fb x m ε2).to d, fun ε2 h2 => ⟨m, Nat.lt_succ_self m, h2⟩, h1 _ _ ?_⟩
        cases eb : x ε' with
        | nx ε3 => rw [eb] at z; exact z
        | ct ε3 => rw [eb] at z; exact z
        | bk ε3 => rw [eb] at z; exact z
        | rt v => rw [eb] at z; exact z
        | ex c ε3 => rw [eb] at z; exact z
        | stuck => rw [eb] at z; exact z
      | false => exact z
  · exact hh.elim
end
/-! ### the judgements -/
section
variable {X : Cx} {cl : Nat → Addr} {W : WX} {st : Stmt} {rest : List Stmt} {t u : TS} {g : DS} {x y : XS}
theorem QS.xq (h : QS X cl W st t g) (s : Snd g x) : QS X cl W st t (gOf x) := ⟨h.ps, fun H0 d D' ε σ H en q hh => h.sim H0 d D' ε σ H en q (s d ε hh)⟩
theorem QSs.xq (h : QSs X cl W rest t g) (s : Snd g x) : QSs X cl W rest t (gOf x) := ⟨h.ps, fun H0 d D' ε σ H en q hh => h.sim H0 d D' ε σ H en q (s d ε hh)⟩
theorem wipeE_len (ε : Env) : ∀ vs, (wipeE ε vs).length = ε.length
  | [] => rfl
  | v :: vs => by unfold wipeE; rw [List.length_set, wipeE_len ε vs]
theorem wipeE_get {ε : Env} {i : Nat} {s : Sl} : ∀ {vs : List Nat}, (wipeE ε vs)[i]? = some (some s) → ε[i]? = some (some s)
  | [], h => h
  | v :: vs, h => by
    unfold wipeE at h
    rcases set_get h with ⟨_, _, z⟩ | ⟨_, z⟩
    · cases z
    · exact wipeE_get z
theorem SQ.wipe {K : Fg} {H0 H : Hp} {ε : Env} {σ : L2.St} (vs : List Nat) (q : SQ K H0 ε σ H) : SQ K H0 (wipeE ε vs) σ H := ⟨q.1.forget fun i s h => wipeE_get h, by rw [wipeE_len]; exact q.2⟩
theorem QS.wp (vs : List Nat) (h : QS X cl W st t (gOf x)) : QS X cl W st t (gOf (xWp vs x)) := ⟨h.ps, fun H0 d D' ε σ H en q hh => by
  refine h.sim H0 { d with nx := fun ε => d.nx (wipeE ε vs), ct := fun ε => d.ct (wipeE ε vs), bk := fun ε => d.bk (wipeE ε vs) } D' ε σ H ⟨fun ε' σ' H' q' h' => en.nx _ _ _ (q'.wipe vs) h', en.rt, en.ex, fun ε' σ' H' q' h' => en.bk _ _ _ (q'.wipe vs) h', fun ε' σ' H' q' h' => en.ct _ _ _ (q'.wipe vs) h'⟩ q ?_
  change (xWp vs x ε).to d at hh
  unfold xWp at hh
  show (x ε).to _
  cases e : x ε with
  | nx _ => rw [e] at hh; exact hh
  | ct _ => rw [e] at hh; exact hh
  | bk _ => rw [e] at hh; exact hh
  | rt _ => rw [e] at hh; exact hh
  | ex _ _ => rw [e] at hh; exact hh
  | stuck => rw [e] at hh; exact hh⟩
theorem QSs.wp (vs : List Nat) (h : QSs X cl W rest t (gOf x)) : QSs X cl W rest t (gOf (xWp vs x)) := ⟨h.ps, fun H0 d D' ε σ H en q hh => by
  refine h.sim H0 { d with nx := fun ε => d.nx (wipeE ε vs), ct := fun ε => d.ct (wipeE ε vs), bk := fun ε => d.bk (wipeE ε vs) } D' ε σ H ⟨fun ε' σ' H' q' h' => en.nx _ _ _ (q'.wipe vs) h', en.rt, en.ex, fun ε' σ' H' q' h' => en.bk _ _ _ (q'.wipe vs) h', fun ε' σ' H' q' h' => en.ct _ _ _ (q'.wipe vs) h'⟩ q ?_
  change (xWp vs x ε).to d at hh
  unfold xWp at hh
  show (x ε).to _
  cases e : x ε with
  | nx _ => rw [e] at hh; exact hh
  | ct _ => rw [e] at hh; exact hh
  | bk _ => rw [e] at hh; exact hh
  | rt _ => rw [e] at hh; exact hh
  | ex _ _ => rw [e] at hh; exact hh
  | stuck => rw [e] at hh; exact hh⟩
theorem yb_nil : QSs X cl W [] tNext (gOf xNext) := b_nil.xq snd_next
theorem yb_one (h : QS X cl W st t (gOf x)) : QSs X cl W [st] t (gOf x) := b_one h
theorem yb_cons (h1 : QS X cl W st t (gOf x)) (h2 : QSs X cl W rest u (gOf y)) : QSs X cl W (st :: rest) (tSeq t u) (gOf (xSeq x y)) := (b_cons h1 h2).xq (snd_seq snd_gOf snd_gOf)
end
/-! ### what a def means -/
def runX (n N : Nat) (x : XS) (ds : List D) : Res D := if ds.length = n then (x (startE N ds)).res else .stuck
theorem runX_rd {n N : Nat} {x : XS} {ds : List D} (hl : ds.length = n) (hne : runX n N x ds ≠ .stuck) : gOf x (ends (runX n N x ds)) (startE N ds) := by
  unfold runX at hne ⊢
  rw [if_pos hl] at hne ⊢
  unfold gOf
  cases e : x (startE N ds) with
  | nx ε => rfl
  | rt d => rfl
  | ex c ε => rfl
  | bk ε => rw [e] at hne; exact absurd rfl hne
  | ct ε => rw [e] at hne; exact absurd rfl hne
  | stuck => rw [e] at hne; exact absurd rfl hne
end DL
namespace DL
open PySem L2
/-! ### expressions at slots -/
section
variable (δ : Dv) (ε : Env)
def asBB (d : D) : Res Bool := match d with
  | .bool b => .ok b
  | _ => .stuck
@[simp] theorem asBB_b (b : Bool) : asBB (.bool b) = .ok b := rfl
@[simp] theorem dVar_0 (d : D) (r : Dv) : dVar 0 (some d :: r) = .ok d := rfl
@[simp] theorem dVar_s (i : Nat) (o : Option D) (r : Dv) : dVar (i + 1) (o :: r) = dVar i r := rfl

@[simp] theorem d2_at (g : D → D → Res D) (f h : Dv → Res D) : d2 g f h δ = (f δ).bind fun a => (h δ).bind fun b => g a b := rfl
@[simp] theorem dC_at (d : D) : dC d δ = .ok d := rfl
@[simp] theorem dB_at (f : Dv → Res D) : dB f δ = (f δ).bind asBB := by
  unfold dB
  cases f δ with
  | ok d => cases d <;> rfl
  | exc c => rfl
  | stuck => rfl
@[simp] theorem bAnd_at (f g : Dv → Res Bool) : bAnd f g δ = (f δ).bind fun c => if c = true then g δ else .ok false := rfl
@[simp] theorem bOr_at (f g : Dv → Res Bool) : bOr f g δ = (f δ).bind fun c => if c = true then .ok true else g δ := rfl
@[simp] theorem bNot_at (f : Dv → Res Bool) : bNot f δ = (f δ).bind fun c => .ok (!c) := rfl
@[simp] theorem bYes_at : bYes δ = .ok true := rfl
@[simp] theorem dT_at (f : Dv → Res D) : dT f δ = (f δ).bind truth := rfl
@[simp] theorem dIf_at (g : Dv → Res Bool) (f h : Dv → Res D) : dIf g f h δ = (g δ).bind fun c => if c = true then f δ else h δ := rfl
@[simp] theorem dAndV_at (f h : Dv → Res D) : dAndV f h δ = (f δ).bind fun d => (asB d).bind fun c => if c = true then h δ else .ok (.bool false) := rfl
@[simp] theorem dOrV_at (f h : Dv → Res D) : dOrV f h δ = (f δ).bind fun d => (asB d).bind fun c => if c = true then .ok (.bool true) else h δ := rfl
@[simp] theorem dNotV_at (f : Dv → Res D) : dNotV f δ = (f δ).bind fun d => (asB d).bind fun c => .ok (.bool (!c)) := rfl
@[simp] theorem dChain_at (g g' : D → D → Res D) (f h l : Dv → Res D) : dChain g g' f h l δ = (f δ).bind fun x => (h δ).bind fun y => (g x y).bind fun z => (asB z).bind fun k => if k = true then (l δ).bind fun w => g' y w else .ok (.bool false) := rfl
@[simp] theorem dNil_at : dNil δ = .ok [] := rfl
@[simp] theorem dCons_at (f : Dv → Res D) (g : Dv → Res (List D)) : dCons f g δ = (f δ).bind fun d => (g δ).bind fun ds => .ok (d :: ds) := rfl
@[simp] theorem dTup_at (g : Dv → Res (List D)) : dTup g δ = (g δ).bind fun ds => Res.need (ds.length ≤ big) (.ok (.tuple ds)) := rfl
@[simp] theorem dLst_at (g : Dv → Res (List D)) : dLst g δ = (g δ).bind fun ds => Res.need (ds.length ≤ big) (.ok (.list ds)) := rfl
@[simp] theorem dCall_at (n : Nat) (F : List D → Res D) (gs : Dv → Res (List D)) : dCall n F gs δ = (gs δ).bind fun ds => if ds.length = n then F ds else .stuck := rfl
@[simp] theorem dM_at (g : List Nat → D → Res D) (f h : Dv → Res D) : dM g f h δ = (f δ).bind fun a => (asS a).bind fun l => (h δ).bind fun b => g l b := rfl
@[simp] theorem dNoP_at : dNoP δ = .ok none := rfl
@[simp] theorem dPt_at (f : Dv → Res D) : dPt f δ = (f δ).bind fun d => (asI d).bind fun i => .ok (some i) := rfl
@[simp] theorem dSl_at (f : Dv → Res D) (l u : Dv → Res (Option Int)) : dSl f l u δ = (f δ).bind fun d => (l δ).bind fun lo => (u δ).bind fun hi => oSl d lo hi := rfl
@[simp] theorem dGetD_at (f h : Dv → Res D) : dGetD f h δ = (f δ).bind fun d => (h δ).bind fun k => (lookR d k).bind ofV := rfl
@[simp] theorem dGet2_at (f h g : Dv → Res D) : dGet2 f h g δ = (f δ).bind fun d => (asDic d).bind fun d => (h δ).bind fun k => (g δ).bind fun x => (lookR d k).bind fun o => .ok (o.getD x) := rfl
@[simp] theorem dIsi_at (cs : List String) (f : Dv → Res D) : dIsi cs f δ = (f δ).bind (isOf cs) := rfl
@[simp] theorem dItems_at (f : Dv → Res D) : dItems f δ = (f δ).bind items := rfl

/-! ### statements at slots -/
variable (x y : XS) (f h fk fv : Dv → Res D) (fb : Dv → Res Bool) (i j : Nat) (m n : Bool)
@[simp] theorem xNext_at : xNext ε = .nx ε := rfl
/-- then .. -/
def Out.sq (o : Out) (y : XS) : Out := match o with
  | .nx ε' => y ε'
  | o => o
@[simp] theorem sq_nx : (Out.nx ε).sq y = y ε := rfl
@[simp] theorem sq_rt (d : D) : (Out.rt d).sq y = .rt d := rfl
@[simp] theorem sq_ex (c : Nat) : (Out.ex c ε).sq y = .ex c ε := rfl
@[simp] theorem sq_bk : (Out.bk ε).sq y = .bk ε := rfl
@[simp] theorem sq_ct : (Out.ct ε).sq y = .ct ε := rfl
@[simp] theorem sq_stuck : Out.stuck.sq y = .stuck := rfl
@[simp] theorem xSeq_at : xSeq x y ε = (x ε).sq y := rfl
@[simp] theorem xSet_at : xSet i f ε = (f (view ε)).thn ε fun v => Out.need (i < ε.length ∧ calm v = true) (.nx (ε.set i (some (.fz v)))) := rfl
@[simp] theorem xOwn_at : xOwn i f ε = (f (view ε)).thn ε fun v => Out.need (i < ε.length ∧ isBox v = true ∧ notScr v = true ∧ calm v = true) (.nx (ε.set i (some (.ow v)))) := rfl
@[simp] theorem xIf_at : xIf fb x y ε = (fb (view ε)).thn ε fun b => if b = true then x ε else y ε := rfl
@[simp] theorem xRet_at : xRet f ε = (f (view ε)).thn ε fun v => .rt v := rfl
@[simp] theorem xRetN_at : xRetN ε = .rt .none := rfl
@[simp] theorem xRaise_at (c : Nat) : xRaise c ε = .ex c ε := rfl
@[simp] theorem xBreak_at : xBreak ε = .bk ε := rfl
@[simp] theorem xCont_at : xCont ε = .ct ε := rfl
@[simp] theorem xDrop_at : xDrop f ε = (f (view ε)).thn ε fun _ => .nx ε := rfl
@[simp] theorem ownAt_0 (d : D) (r : Env) : ownAt (some (.ow d) :: r) 0 = some d := rfl
@[simp] theorem ownAt_s (o : Option Sl) (r : Env) : ownAt (o :: r) (i + 1) = ownAt r i := rfl
@[simp] theorem fzAt_0 (d : D) (r : Env) : fzAt (some (.fz d) :: r) 0 = some d := rfl
@[simp] theorem fzAt_s (o : Option Sl) (r : Env) : fzAt (o :: r) (i + 1) = fzAt r i := rfl
def Out.opt (o : Option D) (k : D → Out) : Out := match o with
  | some d => k d
  | none => .stuck
@[simp] theorem opt_some (d : D) (k : D → Out) : Out.opt (some d) k = k d := rfl
@[simp] theorem opt_none (k : D → Out) : Out.opt none k = .stuck := rfl
@[simp] theorem xRetOwn_at : xRetOwn i ε = Out.opt (ownAt ε i) .rt := by
  unfold xRetOwn Out.opt
  cases ownAt ε i <;> rfl
@[simp] theorem xFz_at : xFz i x ε = Out.opt (ownAt ε i) fun v => x (ε.set i (some (.fz v))) := by
  unfold xFz Out.opt
  cases ownAt ε i <;> rfl
@[simp] theorem xPar_at : xPar i j m n f h ε = (f (view ε)).thn ε fun x => (h (view ε)).thn ε fun y => Out.need (i < ε.length ∧ j < ε.length ∧ okM m x ∧ okM n y) (.nx ((ε.set i (mk m x)).set j (mk n y))) := rfl
@[simp] theorem okM_t (x : D) : okM true x ↔ calm x = true ∧ isBox x = true ∧ notScr x = true := by simp [okM]
@[simp] theorem okM_f (x : D) : okM false x ↔ calm x = true := by simp [okM]
@[simp] theorem mk_t (x : D) : mk true x = some (.ow x) := rfl
@[simp] theorem mk_f (x : D) : mk false x = some (.fz x) := rfl
@[simp] theorem notScr_l (l : List D) : notScr (.list l) = true := rfl
def lOf (d : D) : Option (List D) := match d with
  | .list l => some l
  | _ => none
@[simp] theorem lOf_l (l : List D) : lOf (.list l) = some l := rfl
def Out.optL (o : Option (List D)) (k : List D → Out) : Out := match o with
  | some d => k d
  | none => .stuck
@[simp] theorem optL_some (d : List D) (k : List D → Out) : Out.optL (some d) k = k d := rfl
@[simp] theorem xApp_at : xApp i f ε = Out.optL ((ownAt ε i).bind lOf) fun l => Out.need (immAll l = true) ((f (view ε)).thn ε fun x => Out.need (imm x = true ∧ l.length < big) (.nx (ε.set i (some (.ow (.list (l ++ [x]))))))) := by
  unfold xApp Out.optL
  cases ownAt ε i with
  | none => rfl
  | some d => cases d <;> rfl
@[simp] theorem xExt_at : xExt i f ε = Out.optL ((ownAt ε i).bind lOf) fun l => Out.need (immAll l = true) ((f (view ε)).thn ε fun x => Out.optL (lOf x) fun m => Out.need (immAll m = true ∧ l.length + m.length ≤ big) (.nx (ε.set i (some (.ow (.list (l ++ m))))))) := by
  unfold xExt Out.optL
  cases ownAt ε i with
  | none => rfl
  | some d =>
    cases d with
    | list l =>
      show Out.need _ _ = Out.need _ _
      congr 1
      cases f (view ε) with
      | ok x => cases x <;> rfl
      | exc c => rfl
      | stuck => rfl
    | _ => rfl
@[simp] theorem xPut_at : xPut i fk fv ε = Out.opt (ownAt ε i) fun e => (fv (view ε)).thn ε fun x => Out.need (imm x = true) ((fk (view ε)).thn ε fun k => Out.opt (putR e k x) fun e2 => Out.need (lenD e < big) (.nx (ε.set i (some (.ow e2))))) := by
  unfold xPut Out.opt
  cases ownAt ε i with
  | none => rfl
  | some d =>
    show Res.thn _ _ _ = Res.thn _ _ _
    congr 1
@[simp] theorem xNewK_at : xNewK i ε = Out.need (i < ε.length) (.nx (ε.set i (some (.ow (.dicK [] []))))) := rfl
@[simp] theorem xNewT_at : xNewT i ε = Out.need (i < ε.length) (.nx (ε.set i (some (.ow (.dicT [] []))))) := rfl
variable (k : D → Env → Option Env) (fi : Dv → Res (List D))
@[simp] theorem xFor_at : xFor fi k x ε = (fi (view ε)).thn ε fun xs => xLoop k x xs ε := rfl
def asO {α : Type} (r : Res α) : Option α := match r with
  | .ok a => some a
  | _ => none
@[simp] theorem asO_ok {α : Type} (a : α) : asO (.ok a) = some a := rfl
@[simp] theorem xForN_at : xForN i k x ε = Out.optL ((fzAt ε i).bind fun y => asO (items y)) fun xs => xLoop k x xs ε := by
  unfold xForN Out.optL
  cases fzAt ε i with
  | none => rfl
  | some y =>
    cases q : items y with
    | ok xs => simp [q]
    | exc c => simp [q, asO]
    | stuck => simp [q, asO]
def Out.wp (vs : List Nat) (o : Out) : Out := match o with
  | .nx ε' => .nx (wipeE ε' vs)
  | .ct ε' => .ct (wipeE ε' vs)
  | .bk ε' => .bk (wipeE ε' vs)
  | o => o
variable (vs : List Nat)
@[simp] theorem xWp_at : xWp vs x ε = (x ε).wp vs := rfl
@[simp] theorem wp_nx : (Out.nx ε).wp vs = .nx (wipeE ε vs) := rfl
@[simp] theorem wp_ct : (Out.ct ε).wp vs = .ct (wipeE ε vs) := rfl
@[simp] theorem wp_bk : (Out.bk ε).wp vs = .bk (wipeE ε vs) := rfl
@[simp] theorem wp_rt (d : D) : (Out.rt d).wp vs = .rt d := rfl
@[simp] theorem wp_ex (c : Nat) : (Out.ex c ε).wp vs = .ex c ε := rfl
@[simp] theorem wp_stuck : Out.stuck.wp vs = .stuck := rfl
@[simp] theorem wipeE_nil : wipeE ε [] = ε := rfl
@[simp] theorem wipeE_cons (v : Nat) : wipeE ε (v :: vs) = (wipeE ε vs).set v none := rfl
@[simp] theorem wipeD_nil : wipeD δ [] = δ := rfl
@[simp] theorem wipeD_cons (v : Nat) : wipeD δ (v :: vs) = (wipeD δ vs).set v none := rfl
@[simp] theorem view_nil : view [] = [] := rfl
@[simp] theorem view_cons (o : Option Sl) : view (o :: ε) = o.map Sl.d :: view ε := rfl
@[simp] theorem res_nx : (Out.nx ε).res = .ok .none := rfl
@[simp] theorem res_rt (d : D) : (Out.rt d).res = .ok d := rfl
@[simp] theorem res_ex (c : Nat) : (Out.ex c ε).res = .exc c := rfl
@[simp] theorem xTurn_at (v : D) : xTurn k x v ε = if imm v = true then (match k v ε with | some ε2 => x ε2 | none => .stuck) else .stuck := rfl
@[simp] theorem startE_at (N : Nat) (ds : List D) : startE N ds = ds.map (fun d => some (.fz d)) ++ List.replicate (N - ds.length) none := rfl
end
/-! ### loops -/
section
variable {k : D → Env → Option Env} {b : XS}
theorem loop_cut {α : Type} (enc : α → D) (S : List α → Env) (p : List α) (ys : List D) (hs : ∀ q a r, p = q ++ a :: r → xTurn k b (enc a) (S q) = .nx (S (q ++ [a]))) : xLoop k b (p.map enc ++ ys) (S []) = xLoop k b ys (S p) := by
  have key : ∀ (r q : List α), p = q ++ r → xLoop k b (r.map enc ++ ys) (S q) = xLoop k b ys (S p) := by
    intro r
    induction r with
    | nil => intro q e; rw [List.append_nil] at e; subst e; rfl
    | cons a r ih =>
      intro q e
      rw [List.map_cons, List.cons_append]
      show (match xTurn k b (enc a) (S q) with
        | .nx ε' => xLoop k b (r.map enc ++ ys) ε'
        | .ct ε' => xLoop k b (r.map enc ++ ys) ε'
        | .bk ε' => .nx ε'
        | o => o) = _
      rw [hs q a r e]
      exact ih (q ++ [a]) (by rw [e, List.append_assoc]; rfl)
  exact key p [] rfl
theorem loop_st {α : Type} (enc : α → D) (S : List α → Env) (l : List α) (hs : ∀ q a r, l = q ++ a :: r → xTurn k b (enc a) (S q) = .nx (S (q ++ [a]))) : xLoop k b (l.map enc) (S []) = .nx (S l) := by
  have := loop_cut enc S l [] hs
  rw [List.append_nil] at this
  exact this
theorem loop_ix (S : Nat → Env) (xs : List D) (hs : ∀ j x, xs[j]? = some x → xTurn k b x (S j) = .nx (S (j + 1))) : xLoop k b xs (S 0) = .nx (S xs.length) := by
  have := loop_st (k := k) (b := b) id (fun q => S q.length) xs fun q a r e => by
    have := hs q.length a (by rw [e]; simp)
    simpa using this
  rw [List.map_id] at this
  exact this
theorem loop_rng (lo : Int) (n : Nat) (S : Nat → Env) (hs : ∀ j, j < n → xTurn k b (.int (lo + (j : Int))) (S j) = .nx (S (j + 1))) : xLoop k b (rng lo n) (S 0) = .nx (S n) := by
  have := loop_ix (k := k) (b := b) S (rng lo n) fun j x hx => by
    have hj : j < n := by
      have := (List.getElem?_eq_some_iff.mp hx).1
      rw [rng_len] at this
      exact this
    rw [rng_get hj] at hx
    cases hx
    exact hs j hj
  rw [rng_len] at this
  exact this
/-- the same slots behind each turn -/
theorem loop_same (xs : List D) (ε : Env) (hs : ∀ x, x ∈ xs → xTurn k b x ε = .nx ε) : xLoop k b xs ε = .nx ε := by
  exact loop_ix (k := k) (b := b) (fun _ => ε) xs fun j x hx => hs x (List.mem_of_getElem? hx)
/-- turns, then one that does not go on -/
theorem loop_rt {α : Type} (enc : α → D) (S : List α → Env) (p : List α) (a : α) (r : List α) (v : D) (hs : ∀ q a r, p = q ++ a :: r → xTurn k b (enc a) (S q) = .nx (S (q ++ [a]))) (h : xTurn k b (enc a) (S p) = .rt v) : xLoop k b ((p ++ a :: r).map enc) (S []) = .rt v := by
  rw [List.map_append, loop_cut enc S p _ hs, List.map_cons]
  unfold xLoop
  rw [h]
theorem loop_ex {α : Type} (enc : α → D) (S : List α → Env) (p : List α) (a : α) (r : List α) (c : Nat) (ε : Env) (hs : ∀ q a r, p = q ++ a :: r → xTurn k b (enc a) (S q) = .nx (S (q ++ [a]))) (h : xTurn k b (enc a) (S p) = .ex c ε) : xLoop k b ((p ++ a :: r).map enc) (S []) = .ex c ε := by
  rw [List.map_append, loop_cut enc S p _ hs, List.map_cons]
  unfold xLoop
  rw [h]
/-- a search: the first hit is told -/
theorem loop_find {α : Type} (enc : α → D) (ε : Env) (l : List α) (P : α → Option D) (hs : ∀ a ∈ l, xTurn k b (enc a) ε = match P a with | none => .nx ε | some v => .rt v) : xLoop k b (l.map enc) ε = match l.findSome? P with | none => .nx ε | some v => .rt v := by
  induction l with
  | nil => rfl
  | cons a l ih =>
    rw [List.map_cons, List.findSome?_cons]
    unfold xLoop
    rw [hs a List.mem_cons_self]
    cases e : P a with
    | none => exact ih fun c hc => hs c (List.mem_cons_of_mem _ hc)
    | some v => rfl
/-- .. of a truth -/
theorem loop_any {α : Type} (enc : α → D) (ε : Env) (l : List α) (P : α → Bool) (v : D) (hs : ∀ a ∈ l, xTurn k b (enc a) ε = if P a = true then .rt v else .nx ε) : xLoop k b (l.map enc) ε = if l.any P = true then .rt v else .nx ε := by
  rw [loop_find enc ε l (fun a => if P a = true then some v else none)]
  · induction l with
    | nil => rfl
    | cons a l ih =>
      rw [List.findSome?_cons, List.any_cons]
      by_cases h : P a = true
      · simp [h]
      · simp only [h]
        simpa using ih fun c hc => hs c (List.mem_cons_of_mem _ hc)
  · intro a ha
    rw [hs a ha]
    by_cases h : P a = true <;> simp [h]
variable {fb : Dv → Res Bool}
theorem xWh_mono : ∀ (n m : Nat) (ε : Env), n ≤ m → xWh fb b n ε ≠ .stuck → xWh fb b m ε = xWh fb b n ε
  | 0, _, _, _, h => absurd rfl h
  | n + 1, 0, _, hl, _ => by omega
  | n + 1, m + 1, ε, hl, h => by
    unfold xWh at h ⊢
    cases ef : fb (view ε) with
    | exc c => rfl
    | stuck => rfl
    | ok t =>
      rw [ef] at h
      cases t with
      | false => rfl
      | true =>
        simp only [Res.ok_thn, if_true] at h ⊢
        cases eb : b ε with
        | nx ε' => rw [eb] at h; exact xWh_mono n m ε' (by omega) h
        | ct ε' => rw [eb] at h; exact xWh_mono n m ε' (by omega) h
        | _ => rfl
theorem while_of {n : Nat} {ε : Env} {o : Out} (h : xWh fb b n ε = o) (ho : o ≠ .stuck) : xWhile fb b ε = o := by
  have hx : ∃ n, xWh fb b n ε ≠ .stuck := ⟨n, by rw [h]; exact ho⟩
  unfold xWhile
  rw [dif_pos hx]
  have c := hx.choose_spec
  rcases Nat.le_total hx.choose n with z | z
  · rw [← xWh_mono _ _ _ z c, h]
  · rw [xWh_mono _ _ _ z (by rw [h]; exact ho), h]
theorem while_cut (S : Nat → Env) (n : Nat) (o : Out) (hs : ∀ j, j < n → fb (view (S j)) = .ok true ∧ b (S j) = .nx (S (j + 1))) (he : xWh fb b 1 (S n) = o) (ho : o ≠ .stuck) : xWhile fb b (S 0) = o := by
  have key : ∀ m j, j + m = n → xWh fb b (m + 1) (S j) = o := by
    intro m
    induction m with
    | zero => intro j e; rw [Nat.add_zero] at e; subst e; exact he
    | succ m ih =>
      intro j e
      unfold xWh
      rw [(hs j (by omega)).1, (hs j (by omega)).2]
      exact ih (j + 1) (by omega)
  exact while_of (key n 0 (by omega)) ho
theorem while_st (S : Nat → Env) (n : Nat) (hs : ∀ j, j < n → fb (view (S j)) = .ok true ∧ b (S j) = .nx (S (j + 1))) (he : fb (view (S n)) = .ok false) : xWhile fb b (S 0) = .nx (S n) :=
  while_cut S n _ hs (by unfold xWh; rw [he]; rfl) (by intro z; cases z)
end
/-! ### comprehensions -/
section
variable {vs : List Nat} {fi : Dv → Res (List D)} {k : D → Dv → Option Dv} {ft : Dv → Res Bool} {fe : Dv → Res D} {δ : Dv}
theorem compM_fm {α : Type} (enc : α → D) (h : α → List D) {f : D → Res (List D)} (l : List α) (hs : ∀ a ∈ l, f (enc a) = .ok (h a)) : compM f (l.map enc) = .ok (l.flatMap h) := by
  induction l with
  | nil => rfl
  | cons a l ih =>
    rw [List.map_cons]
    unfold compM
    rw [hs a List.mem_cons_self, Res.ok_bind, ih fun c hc => hs c (List.mem_cons_of_mem _ hc)]
    rfl
theorem lc_fm {α : Type} (enc : α → D) (h : α → List D) (l : List α) (hi : fi δ = .ok (l.map enc)) (hl : l.length ≤ big) (hs : ∀ a ∈ l, compOne k ft fe (wipeD δ vs) (enc a) = .ok (h a)) : dLc vs fi k ft fe δ = .ok (.list (l.flatMap h)) := by
  unfold dLc
  rw [hi, Res.ok_bind, Res.need_pos (by rw [List.length_map]; exact hl), compM_fm enc h l hs]
  rfl
theorem lc_map {α : Type} (enc : α → D) (g : α → D) (l : List α) (hi : fi δ = .ok (l.map enc)) (hl : l.length ≤ big) (hs : ∀ a ∈ l, compOne k ft fe (wipeD δ vs) (enc a) = .ok [g a]) : dLc vs fi k ft fe δ = .ok (.list (l.map g)) := by
  rw [lc_fm enc (fun a => [g a]) l hi hl hs]
  congr 2
  clear hi hl hs
  induction l with
  | nil => rfl
  | cons a l ih => simp [ih]
theorem lc_filter {α : Type} (enc : α → D) (p : α → Bool) (g : α → D) (l : List α) (hi : fi δ = .ok (l.map enc)) (hl : l.length ≤ big) (hs : ∀ a ∈ l, compOne k ft fe (wipeD δ vs) (enc a) = .ok (if p a = true then [g a] else [])) : dLc vs fi k ft fe δ = .ok (.list ((l.filter p).map g)) := by
  rw [lc_fm enc (fun a => if p a = true then [g a] else []) l hi hl hs]
  congr 2
  clear hi hl hs
  induction l with
  | nil => rfl
  | cons a l ih => 
    by_cases h : p a = true <;> simp [h, List.filter_cons, ih]
theorem lc_rng (lo : Int) (n : Nat) (g : Nat → D) (hi : fi δ = .ok (rng lo n)) (hl : n ≤ big) (hs : ∀ j, j < n → compOne k ft fe (wipeD δ vs) (.int (lo + (j : Int))) = .ok [g j]) : dLc vs fi k ft fe δ = .ok (.list ((List.range n).map g)) :=
  lc_map (fun (j : Nat) => D.int (lo + (j : Int))) g (List.range n) hi (by rw [List.length_range]; exact hl) fun j hj => hs j (List.mem_range.mp hj)
end
end DL
namespace DL
open PySem L2
/-! ### == over data -/
def deqAll (l m : List D) : Bool := PyData.eqvAll (toPyAll l) (toPyAll m)
@[simp] theorem deq_ii (i j : Int) : deq (.int i) (.int j) = decide (i = j) := by
  unfold deq toPy PyData.eqv
  by_cases h : i = j <;> simp [h]
@[simp] theorem deq_ss (i j : List Nat) : deq (.str i) (.str j) = decide (i = j) := by
  unfold deq toPy PyData.eqv
  by_cases h : i = j
  · subst h; simp
  · have : S i ≠ S j := fun z => h (S_inj z)
    rw [decide_eq_false h]
    simpa using this
@[simp] theorem deq_bb (i j : Bool) : deq (.bool i) (.bool j) = decide (i = j) := by
  unfold deq toPy PyData.eqv
  cases i <;> cases j <;> rfl
@[simp] theorem deq_nn : deq .none .none = true := by
  unfold deq toPy PyData.eqv
  rfl
@[simp] theorem deq_tt (l m : List D) : deq (.tuple l) (.tuple m) = deqAll l m := by
  unfold deq deqAll
  rw [toPy, toPy, PyData.eqv]
@[simp] theorem deq_ll (l m : List D) : deq (.list l) (.list m) = deqAll l m := by
  unfold deq deqAll
  rw [toPy, toPy, PyData.eqv]
@[simp] theorem deq_ff (l m : List D) : deq (.fzl l) (.fzl m) = deqAll l m := by
  unfold deq deqAll
  rw [toPy, toPy, PyData.eqv]
@[simp] theorem deq_st (l : List Nat) (m : List D) : deq (.str l) (.tuple m) = false := by
  unfold deq
  rw [toPy, toPy, PyData.eqv] <;> (intros; contradiction)
@[simp] theorem deq_ts (l : List Nat) (m : List D) : deq (.tuple m) (.str l) = false := by
  unfold deq
  rw [toPy, toPy, PyData.eqv] <;> (intros; contradiction)
@[simp] theorem deq_nt (m : List D) : deq .none (.tuple m) = false := by
  unfold deq
  rw [toPy, toPy, PyData.eqv] <;> (intros; contradiction)
@[simp] theorem deq_tn (m : List D) : deq (.tuple m) .none = false := by
  unfold deq
  rw [toPy, toPy, PyData.eqv] <;> (intros; contradiction)
@[simp] theorem deq_ns (m : List Nat) : deq .none (.str m) = false := by
  unfold deq
  rw [toPy, toPy, PyData.eqv] <;> (intros; contradiction)
@[simp] theorem deq_sn (m : List Nat) : deq (.str m) .none = false := by
  unfold deq
  rw [toPy, toPy, PyData.eqv] <;> (intros; contradiction)
@[simp] theorem deq_ni (m : Int) : deq .none (.int m) = false := by
  unfold deq
  rw [toPy, toPy, PyData.eqv] <;> (intros; contradiction)
@[simp] theorem deq_in (m : Int) : deq (.int m) .none = false := by
  unfold deq
  rw [toPy, toPy, PyData.eqv] <;> (intros; contradiction)
@[simp] theorem deq_is (m : Int) (l : List Nat) : deq (.int m) (.str l) = false := by
  unfold deq
  rw [toPy, toPy, PyData.eqv] <;> (intros; contradiction)
@[simp] theorem deq_si (m : Int) (l : List Nat) : deq (.str l) (.int m) = false := by
  unfold deq
  rw [toPy, toPy, PyData.eqv] <;> (intros; contradiction)
@[simp] theorem deqAll_nn : deqAll [] [] = true := by unfold deqAll toPyAll; rw [PyData.eqvAll]
@[simp] theorem deqAll_nc (d : D) (l : List D) : deqAll [] (d :: l) = false := by unfold deqAll; rw [toPyAll, toPyAll, PyData.eqvAll] <;> (intros; contradiction)
@[simp] theorem deqAll_cn (d : D) (l : List D) : deqAll (d :: l) [] = false := by unfold deqAll; rw [toPyAll, toPyAll, PyData.eqvAll] <;> (intros; contradiction)
@[simp] theorem deqAll_cc (d e : D) (l m : List D) : deqAll (d :: l) (e :: m) = (deq d e && deqAll l m) := by unfold deqAll deq; rw [toPyAll, toPyAll, PyData.eqvAll]
theorem deqAll_map {α : Type} [DecidableEq α] (g : α → D) (hg : ∀ a b, deq (g a) (g b) = decide (a = b)) : ∀ l m : List α, deqAll (l.map g) (m.map g) = decide (l = m)
  | [], [] => by simp
  | [], _ :: _ => by simp
  | _ :: _, [] => by simp
  | a :: l, b :: m => by
    rw [List.map_cons, List.map_cons, deqAll_cc, hg, deqAll_map g hg l m]
    by_cases h : a = b <;> by_cases h2 : l = m <;> simp [h, h2]
mutual
theorem deq_self : ∀ (n : Nat) (d : D), shp n d = true → deq d d = true
  | _, .none, _ => by simp
  | _, .bool _, _ => by simp
  | _, .int _, _ => by simp
  | _, .str _, _ => by simp
  | n + 1, .list l, h => by rw [deq_ll]; unfold shp at h; exact deqAll_self n l h
  | n + 1, .tuple l, h => by rw [deq_tt]; unfold shp at h; exact deqAll_self n l h
  | 0, .list l, h => by cases h
  | 0, .tuple l, h => by cases h
  | _, .dicK _ _, h => by simp [shp] at h
  | _, .dicT _ _, h => by simp [shp] at h
  | _, .scr _, h => by simp [shp] at h
  | _, .adr _, h => by simp [shp] at h
  | _, .obj _ _ _ _, h => by simp [shp] at h
  | n + 1, .fzl l, h => by rw [deq_ff]; unfold shp at h; exact deqAll_self n l h
  | 0, .fzl l, h => by cases h
theorem deqAll_self : ∀ (n : Nat) (l : List D), shpAll n l = true → deqAll l l = true
  | _, [], _ => by simp
  | n, d :: r, h => by
    unfold shpAll at h
    rw [Bool.and_eq_true] at h
    rw [deqAll_cc, deq_self n d h.1, deqAll_self n r h.2]
    rfl
end
@[simp] theorem shp_n (n : Nat) : shp n .none = true := by cases n <;> rfl
@[simp] theorem shp_b (n : Nat) (b : Bool) : shp n (.bool b) = true := by cases n <;> rfl
@[simp] theorem shp_i (n : Nat) (i : Int) : shp n (.int i) = true := by cases n <;> rfl
theorem shp_s (n : Nat) (l : List Nat) : shp n (.str l) = l.all (· < 0x110000) := by cases n <;> rfl
@[simp] theorem shp_t (n : Nat) (l : List D) : shp (n + 1) (.tuple l) = shpAll n l := rfl
@[simp] theorem shp_l (n : Nat) (l : List D) : shp (n + 1) (.list l) = shpAll n l := rfl
@[simp] theorem shpAll_n (n : Nat) : shpAll n [] = true := by cases n <;> rfl
@[simp] theorem shpAll_c (n : Nat) (d : D) (l : List D) : shpAll n (d :: l) = (shp n d && shpAll n l) := by cases n <;> rfl
theorem shpAll_iff (n : Nat) : ∀ l : List D, shpAll n l = true ↔ ∀ d ∈ l, shp n d = true
  | [] => by simp
  | d :: l => by simp [shpAll_iff n l]
theorem shpAll_map {α : Type} (n : Nat) (g : α → D) (l : List α) (h : ∀ a ∈ l, shp n (g a) = true) : shpAll n (l.map g) = true := by
  rw [shpAll_iff]
  intro d hd
  obtain ⟨a, ha, rfl⟩ := List.mem_map.mp hd
  exact h a ha
end DL
namespace DL
open PySem L2 PySem.Spec PyProof.Rows
/-! ### sets of keys of one kind, that can be walked -/
section
variable {P : Program} {w : World} {κ : Type} [DecidableEq κ]
/-- the entry holds the key -/
def El (kn : KeyKind P w κ) (e : Int × Value) (k : κ) : Prop := kn.is k e.2 = true ∧ e.1 = kn.hash k ∧ e.2.scannable = true
inductive Els (kn : KeyKind P w κ) : List (Int × Value) → List κ → Prop
  | nil : Els kn [] []
  | cons {e : Int × Value} {k : κ} {es : List (Int × Value)} {ks : List κ} (h : El kn e k) (t : Els kn es ks) : Els kn (e :: es) (k :: ks)
variable {kn : KeyKind P w κ}
theorem Els.len : ∀ {es : List (Int × Value)} {ks : List κ}, Els kn es ks → es.length = ks.length
  | _, _, .nil => rfl
  | _, _, .cons _ t => by rw [List.length_cons, List.length_cons, t.len]
theorem Els.perm {es es2 : List (Int × Value)} (p : es.Perm es2) : ∀ {ks : List κ}, Els kn es ks → ∃ ks2, ks.Perm ks2 ∧ Els kn es2 ks2 := by
  induction p with
  | nil => intro ks h; exact ⟨ks, .refl _, h⟩
  | cons x q ih =>
    intro ks h
    cases h with
    | cons h t =>
      obtain ⟨ks2, p2, t2⟩ := ih t
      exact ⟨_ :: ks2, p2.cons _, .cons h t2⟩
  | swap x y l =>
    intro ks h
    cases h with
    | cons h1 t =>
      cases t with
      | cons h2 t => exact ⟨_, .swap _ _ _, .cons h2 (.cons h1 t)⟩
  | trans p1 p2 ih1 ih2 =>
    intro ks h
    obtain ⟨k1, q1, t1⟩ := ih1 h
    obtain ⟨k2, q2, t2⟩ := ih2 t1
    exact ⟨k2, q1.trans q2, t2⟩
theorem Els.elems : ∀ {es : List (Int × Value)} {ks : List κ}, Els kn es ks → ElemsOf kn es
  | _, _, .nil => fun e he => by cases he
  | _, _, .cons h t => fun e he => by
    rcases List.mem_cons.mp he with z | z
    · subst z
      exact ⟨⟨_, h.1, h.2.1⟩, h.2.2⟩
    · exact t.elems e z
theorem Els.mem {k : κ} : ∀ {es : List (Int × Value)} {ks : List κ}, Els kn es ks → (k ∈ ks ↔ ∃ e ∈ es, kn.is k e.2 = true)
  | _, _, .nil => by simp
  | _, _, .cons (e := e) (k := j) h t => by
    have ih := t.mem (k := k)
    constructor
    · intro hk
      rcases List.mem_cons.mp hk with z | z
      · subst z
        exact ⟨e, List.mem_cons_self, h.1⟩
      · obtain ⟨e2, h1, h2⟩ := ih.mp z
        exact ⟨e2, List.mem_cons_of_mem _ h1, h2⟩
    · rintro ⟨e2, h1, h2⟩
      rcases List.mem_cons.mp h1 with z | z
      · subst z
        rw [kn.inj _ _ _ h2 h.1]
        exact List.mem_cons_self
      · exact List.mem_cons_of_mem _ (ih.mpr ⟨e2, z, h2⟩)
/-- at a stands the set of the keys ks -/
def SetG (kn : KeyKind P w κ) (h : Heap) (a : Addr) (ks : List κ) : Prop :=
  ∃ o es ep t, h.get? a = some o ∧ o.ExactSet ∧ o.data = .set es ep t ∧ Els kn es.toList ks ∧ ks.Nodup ∧ es.size < scanBound ∧ t.fits es.size = true ∧ Ris t.place.toList ∧ (w.params.followText "set-order" = true ∨ t.led = true)
theorem SetG.keep {h h' : Heap} {a : Addr} {ks : List κ} (R : SetG kn h a ks) (k : ∀ o, h.get? a = some o → h'.get? a = some o) : SetG kn h' a ks := by
  obtain ⟨o, es, ep, t, ho, r⟩ := R
  exact ⟨o, es, ep, t, k o ho, r⟩
variable {A : Around} {E : Value → Shared → Prop} {s : Shared} {a : Addr} {ks : List κ}
theorem setG_tail {g : Bool → Sem Unit} (hg : ∀ (b : Bool) (s1 : Shared) (Q2 : Unit → Shared → Prop), Q2 () s1 → wpAny (model P w) A (g b) Q2 E s1)
    {o : Obj} {es : Array (Int × Value)} {ep : Nat} {t : SetTable} (ho : s.heap.get? a = some o) (hx : o.ExactSet) (hd : o.data = .set es ep t)
    {fs : Array (Int × Value)} {u : SetTable} (ge : Els kn fs.toList ks) (nd : ks.Nodup)
    (hb : fs.size < scanBound) (hf : u.fits fs.size = true) (hr : Ris u.place.toList) (hl : w.params.followText "set-order" = true ∨ u.led = true) {wd : Bool} {R : Option Bool → Shared → Prop}
    (hR : ∀ h' ks', Heap.SameBut a s.heap h' → ks.Perm ks' → SetG kn h' a ks' → R (some true) { s with heap := h' }) :
    wpAny (model P w) A (do
        storeSet a fs u
        if (!wd && u.tooFull) = true then do
            g (relayAll u fs (SetTable.grown fs.size)).2.2
            storeSet a (relayAll u fs (SetTable.grown fs.size)).1 (relayAll u fs (SetTable.grown fs.size)).2.1
            pure (some true)
          else pure (some true)) R E s := by
  refine wpAny_bind (wpAny_storeSet_of ho hd ?_ (fits_of_scanBound hb))
  have o1 := store_at (es' := fs) (t' := u) ho hd
  have b1 := Heap.SameBut.update s.heap a (Obj.putSet fs u)
  split
  · have pm := relayAll_perm u fs (SetTable.grown fs.size)
    have f3 := relayAll_fits u fs (SetTable.grown fs.size)
    have r3 := relayAll_ris u fs (SetTable.grown fs.size)
    have l3 := relayAll_led u fs (SetTable.grown fs.size)
    generalize relayAll u fs (SetTable.grown fs.size) = Z at pm f3 r3 l3 ⊢
    obtain ⟨gs, v, gave⟩ := Z
    dsimp only at pm f3 r3 l3 ⊢
    have sz : gs.size = fs.size := by rw [← Array.length_toList, pm.length_eq, Array.length_toList]
    have hb2 : gs.size < scanBound := by rw [sz]; exact hb
    refine wpAny_bind (hg _ _ _ ?_)
    refine wpAny_bind (wpAny_storeSet_of o1 rfl ?_ (fits_of_scanBound hb2))
    have o2 := store_at (es' := gs) (t' := v) o1 rfl
    obtain ⟨ks2, p2, e2⟩ := Els.perm pm.symm ge
    exact wpAny_pure (hR _ ks2 (b1.trans (Heap.SameBut.update _ a _)) p2 ⟨_, gs, _, v, o2, hx, rfl, e2, p2.nodup_iff.mp nd, hb2, f3, r3, hl.imp id fun z => by rw [l3]; exact z⟩)
  · exact wpAny_pure (hR _ ks b1 (.refl _) ⟨_, fs, _, u, o1, hx, rfl, ge, nd, hb, hf, hr, hl⟩)
theorem setG_add {k : κ} {v : Value} {Q : Bool → Shared → Prop} (R : SetG kn s.heap a ks) (room : ks.length + 1 < scanBound) (hk : kn.is k v = true) (hsc : v.scannable = true)
    (hQ : ∀ b h' ks', Heap.SameBut a s.heap h' → SetG kn h' a ks' → ks'.length ≤ ks.length + 1 → (∀ j, j ∈ ks' ↔ j ∈ ks ∨ j = k) → Q b { s with heap := h' }) :
    wpAny (model P w) A (setAddHashed a v (kn.hash k)) Q E s := by
  obtain ⟨o, es, ep, t, ho, hx, hd, ge, nd, hb, hf, hr, hl⟩ := R
  have ln := ge.len
  have hel : ElemsOf kn es.toList := ge.elems
  unfold setAddHashed setAddHashedIn
  refine wpAny_holding (wpAny_bind (wpAny_setState_of ho hd hf ?_))
  dsimp only
  rw [byScan_of hsc hb hel]
  simp only [↓reduceIte]
  unfold setAddByScan
  refine wpAny_bind ?_
  refine wpAny_bind (wpAny_rule ?_)
  refine wpAny_bind (wpAny_setScan_of hk ho hd hf hel ?_)
  cases fi : List.findIdx? (fun e => kn.is k e.2) es.toList with
  | some j =>
    dsimp only
    obtain ⟨hj, pj, _⟩ := List.findIdx?_eq_some_iff_getElem.mp fi
    have hm : k ∈ ks := ge.mem.mpr ⟨es.toList[j], List.getElem_mem hj, pj⟩
    refine wpAny_pure (wpAny_pure ?_)
    exact hQ _ s.heap ks (Heap.SameBut.refl a s.heap) ⟨o, es, ep, t, ho, hx, hd, ge, nd, hb, hf, hr, hl⟩ (Nat.le_succ _) fun i => ⟨.inl, fun z => z.elim id fun e => e ▸ hm⟩
  | none =>
    dsimp only
    have hm : k ∉ ks := fun z => by
      obtain ⟨e, he, q⟩ := ge.mem.mp z
      have c := List.findIdx?_eq_none_iff.mp fi e he
      rw [q] at c
      cases c
    have hgw : ∀ (b : Bool) {s1 : Shared} {Q2 : Unit → Shared → Prop}, Q2 () s1 → wpAny (model P w) A (match b with | true => rule "set.scan.the-table-gave-way" | false => pure ()) Q2 E s1 :=
      fun b s1 Q2 q => by cases b <;> first | exact wpAny_pure q | exact wpAny_rule q
    have pm := layNew_perm t es (kn.hash k) v
    have f1 := layNew_fits t es (kn.hash k) v
    have r1 := layNew_ris t es (kn.hash k) v hr
    have l1 := layNew_led t es (kn.hash k) v
    generalize layNew t es (kn.hash k) v = Z at pm f1 r1 l1 ⊢
    obtain ⟨fs, u, wasD, gave⟩ := Z
    dsimp only at pm f1 r1 l1 ⊢
    rw [Array.toList_push] at pm
    have pc : fs.toList.Perm ((kn.hash k, v) :: es.toList) := pm.trans (List.perm_append_singleton _ _)
    have g0 : Els kn ((kn.hash k, v) :: es.toList) (k :: ks) := .cons ⟨hk, rfl, hsc⟩ ge
    obtain ⟨ks1, p1, g1⟩ := Els.perm pc.symm g0
    have nd1 : ks1.Nodup := p1.nodup_iff.mp (List.nodup_cons.mpr ⟨hm, nd⟩)
    have sz : fs.size = ks.length + 1 := by rw [← Array.length_toList, pc.length_eq, List.length_cons, ln]
    have hb1 : fs.size < scanBound := by rw [sz]; exact room
    have hled : w.params.followText "set-order" = true ∨ u.led = true := hl.imp id fun z => by rw [l1]; exact z
    have fin : ∀ h' ks', Heap.SameBut a s.heap h' → ks1.Perm ks' → SetG kn h' a ks' → Q true { s with heap := h' } := fun h' ks' sb p2 r => by
      have pp := p1.trans p2
      refine hQ _ h' ks' sb r (by rw [← pp.length_eq, List.length_cons]; exact Nat.le_refl _) fun i => ?_
      rw [← pp.mem_iff, List.mem_cons]
      exact Or.comm
    refine wpAny_bind (hgw _ ?_)
    split
    · refine wpAny_bind ?_
      rw [hashByValue_scannable 8 hsc]
      refine wpAny_pure ?_
      refine setG_tail ?_ ho hx hd g1 nd1 hb1 ?_ ?_ ?_ ?_
      · intro b s1 Q2 q; cases b <;> first | exact wpAny_pure q | exact wpAny_rule q
      · first | (split <;> first | exact f1 | exact SetTable.fits_plain_off f1) | exact f1
      · first | (split <;> exact r1) | exact r1
      · first | (split <;> exact hled) | exact hled
      · intro h' ks' sb p2 r; dsimp only; exact wpAny_pure (fin h' ks' sb p2 r)
    · refine wpAny_bind (wpAny_pure ?_)
      simp only [↓reduceIte]
      refine setG_tail ?_ ho hx hd g1 nd1 hb1 f1 r1 hled ?_
      · intro b s1 Q2 q; cases b <;> first | exact wpAny_pure q | exact wpAny_rule q
      · intro h' ks' sb p2 r; dsimp only; exact wpAny_pure (fin h' ks' sb p2 r)
theorem setG_new {h : Heap} {a : Addr} (ho : h.get? a = some { cls := .type "set", dict := none, data := .set #[] 0 (.fresh 0 0 (!w.params.followText "set-order")) }) : SetG kn h a [] :=
  ⟨_, #[], 0, _, ho, ⟨rfl, rfl, rfl⟩, rfl, .nil, List.nodup_nil, (by decide), (by rfl), List.Pairwise.nil, by
    show _ ∨ (!w.params.followText "set-order") = true
    cases w.params.followText "set-order"
    · exact .inr rfl
    · exact .inl rfl⟩
/-- what an iterator gives is put in, one after the other -/
theorem setG_fill {I : Addr} {fp wr : List Addr} {G : Array GenState → Array GenState → Prop} {n : Nat} {Pv : Nat → Value → Prop} {St : Nat → Shared → Prop} {R : Result → Shared → Prop}
    (W : WalksS P w A.in1 I fp wr G n Pv St) (Sa : Addr) (hSf : Sa ∉ fp) (js : List κ) (hn : n = js.length) (hb : js.length + 1 < scanBound) (hval : ∀ i v, Pv i v → ∃ k, js[i]? = some k ∧ kn.is k v = true ∧ v.scannable = true) :
    ∀ (m i : Nat) (s : Shared), n - i = m → i ≤ n → St i s → (∃ us : List κ, us.length ≤ i ∧ (∀ x, x ∈ us ↔ x ∈ js.take i) ∧ SetG kn s.heap Sa us) →
      (∀ s' us, Moved (Sa :: wr) G s s' → us.length ≤ n → (∀ x, x ∈ us ↔ x ∈ js) → SetG kn s'.heap Sa us → R (.ok (.ret .none)) s') →
      codeAny (model P w) A (.builtin "set.update.loop" ⟨[.ref Sa, .ref I], []⟩) R s := by
  have nSw : Sa ∉ wr := fun z => hSf (W.sub _ z)
  have sub2 : ∀ b ∈ wr, b ∈ Sa :: wr := fun b z => List.mem_cons_of_mem _ z
  intro m
  induction m with
  | zero =>
    intro i s hk' hi hst ⟨us, hc, hu, hS⟩ hR
    have ein : i = n := by omega
    subst ein
    refine codeAny_builtin F.entry_set_update_loop ?_
    rw [Around.under_plainId F.plain_set_update_loop _]
    show wpAny _ A.in1 (pyNext (.ref I) >>= _) _ _ s
    refine wpAny_bind (W.done s _ _ hst fun s' hm => ?_)
    show wpAny _ A.in1 (ret Value.none) _ _ s'
    have e : js.take i = js := List.take_of_length_le (by omega)
    rw [e] at hu
    exact wpAny_pure (hR s' us (hm.mono sub2) hc hu (hS.keep fun o e => hm.heap Sa o nSw e))
  | succ m ih =>
    intro i s hk' hi hst ⟨us, hc, hu, hS⟩ hR
    have hlt : i < n := by omega
    refine codeAny_builtin F.entry_set_update_loop ?_
    rw [Around.under_plainId F.plain_set_update_loop _]
    show wpAny _ A.in1 (pyNext (.ref I) >>= _) _ _ s
    refine wpAny_bind (W.item i s _ _ hlt hst fun v s' hP hst' hm => ?_)
    obtain ⟨z, hz, hzk, hzs⟩ := hval i v hP
    have hS' : SetG kn s'.heap Sa us := hS.keep fun o e => hm.heap Sa o nSw e
    show wpAny _ A.in1 (holding [v] (setAdd Sa v) >>= _) _ _ s'
    refine wpAny_bind (wpAny_holding ?_)
    unfold setAdd
    refine wpAny_holding ?_
    refine wpAny_bind (kn.pyHash (k := z) hzk ?_)
    refine setG_add (s := { s' with toks := s'.toks + 1 }) hS' (by omega) hzk hzs fun b h' us2 hsb hS2 hl2 hm2 => ?_
    have hu2 : ∀ x, x ∈ us2 ↔ x ∈ js.take (i + 1) := fun x => by
      rw [hm2 x, hu x, List.take_add_one, hz]
      simp [List.mem_append]
    refine wpAny_pure ⟨plainId_quiet F.plain_set_update_loop _, ih (i + 1) _ (by omega) hlt (W.frame _ s' _ _ hst' (Nat.le_succ _) fun b hb o e => ?_) ⟨us2, by omega, hu2, hS2⟩ fun s2 us3 hm3 hc3 hu3 hS3 => ?_⟩
    · rw [hsb.2 b (fun q : b = Sa => hSf (by rw [← q]; exact hb))]; exact e
    · refine hR s2 us3 (Moved.trans W.gtrans ((hm.mono sub2).then_heap (Nat.le_succ _) fun b o hb e => ?_) hm3) hc3 hu3 hS3
      rw [hsb.2 b (fun q : b = Sa => hb (by rw [q]; exact List.mem_cons_self))]; exact e
end
end DL
namespace DL
open PySem L2 PySem.Spec PyProof.Rows
section
variable {P : Program} {w : World} {A : Around} {E : Value → Shared → Prop} {s : Shared}
/-- a new set -/
def newSet (w : World) : Obj := { cls := .type "set", dict := none, data := .set #[] 0 (.fresh 0 0 (!w.params.followText "set-order")) }
/-- set(z), z a text -/
theorem call_set_txt {x : Str} {tk0 : Tok} {Q : Value → Shared → Prop} (hh : A.handled = none) (hb : x.cps.size + 1 < scanBound)
    (h : ∀ (h' : Heap) (tk : Nat) (us : List Str), SetG (strKind P w) h' s.heap.objs.size us → us.length ≤ x.cps.size → (∀ k, k ∈ us ↔ ∃ c ∈ x.cps.toList, k = ⟨#[c]⟩) → (∀ b o, s.heap.get? b = some o → h'.get? b = some o) → Q (.ref s.heap.objs.size) { s with heap := h', toks := tk }) :
    wpAny (model P w) A (call (.type "set") [.str x tk0]) Q E s := by
  obtain ⟨c, tl, hmro⟩ := F.called_set.mro
  have hmade := F.called_set.made
  have hsub := F.called_set.sub
  refine wpAny_call (codeAny_of_tree ?_)
  show wpAny _ _ (callAny (.type "set") _) _ _ _
  refine wpAny_pure ⟨Code.quiet_builtin _ (by decide +kernel), codeAny_builtin F.entry_type_call ?_⟩
  rw [Around.under_plain (weight_type_call_type "set" [.str x tk0] []) rfl]
  have k1 := F.called_set.notType
  have k2 := F.called_set.canCreate
  have k3 := F.typeCall_set_1 (.str x tk0)
  repeat (any_goals (first | assumption | wp_step))
  refine codeAny_mono (code_set_led1 (.str x tk0) (E := E) (Q₁ := fun obj s1 => obj = .ref s.heap.objs.size ∧ s1 = { s with heap := s.heap.push (newSet w) }) ⟨rfl, rfl⟩) fun r s1 hr => ?_
  cases r with
  | error e => exact hr
  | ok fl =>
    cases fl with
    | ret obj =>
      obtain ⟨rfl, rfl⟩ := hr
      have at0 : (s.heap.push (newSet w)).get? s.heap.objs.size = some (newSet w) := Heap.get?_push_size _ rfl
      have hT : Shared.TypeIs { s with heap := s.heap.push (newSet w) } (.ref s.heap.objs.size) "set" := ⟨_, at0, rfl⟩
      have i1 := F.called_set.init.lookup
      have i2 := F.called_set.init.bind (.ref s.heap.objs.size)
      repeat (any_goals (first | assumption | wp_step))
      refine codeAny_mono (codeAny_call_builtin (R := wants (fun r s2 => r = .none ∧ ∃ h' tk us, s2 = { s with heap := h', toks := tk } ∧ SetG (strKind P w) h' s.heap.objs.size us ∧ us.length ≤ x.cps.size ∧ (∀ k, k ∈ us ↔ ∃ c ∈ x.cps.toList, k = ⟨#[c]⟩) ∧
          (∀ b o, s.heap.get? b = some o → h'.get? b = some o)) E) F.called_set.init.plain F.entry_set_init (check_set_init_1 hT ?_)) fun r2 s2 hr2 => ?_
      · have j1 := F.sub_str_set
        have j2 := F.sub_str_frozenset
        have j3 : (Value.type "str" == Value.type "dict") = false := by decide
        unfold Builtin.«set.__init__» noKeywords Builtin.Frozenset.updateFrom
        generalize hPI : pyIter = PI
        wp_walk
        subst hPI
        refine wpAny_pyIter_str fun o St hW hS0 => ?_
        refine wpAny_bind (wpAny_runValue ?_)
        have hh3 : A.in1.in1.in1.handled = none := by simp [hh]
        have z1 : (s.heap.push (newSet w)).objs.size = s.heap.objs.size + 1 := Heap.size_push ..
        have nf : s.heap.objs.size ∉ [(s.heap.push (newSet w)).objs.size] := by
          rw [Heap.size_push, List.mem_singleton]
          exact Nat.ne_of_lt (Nat.lt_succ_self _)
        have hval : ∀ (i : Nat) (v : Value), SignAt x i v → ∃ k, (x.cps.toList.map fun c => (⟨#[c]⟩ : Str))[i]? = some k ∧ (strKind P w).is k v = true ∧ v.scannable = true := fun i v hv => by
          obtain ⟨c, u, q1, q2⟩ := hv
          subst q2
          refine ⟨⟨#[c]⟩, ?_, PySem.Froz.is_str _ _, rfl⟩
          rw [List.getElem?_map, Array.getElem?_toList, q1]
          rfl
        refine setG_fill (kn := strKind P w) ((hW _ hh3).toS) s.heap.objs.size nf (x.cps.toList.map fun c => (⟨#[c]⟩ : Str)) (by rw [List.length_map, Array.length_toList]) (by rw [List.length_map, Array.length_toList]; exact hb) hval (x.cps.size - 0) 0 _ (by omega) (Nat.zero_le _) hS0 ?_ ?_
        · exact ⟨[], Nat.le_refl 0, fun y => by simp, setG_new (Heap.get?_push_of_some _ at0)⟩
        · intro s' us hm hl' hu' hS'
          obtain ⟨h', g2, d', tk', os'⟩ := s'
          have eg : g2 = s.gens := hm.gens
          have ed : d' = s.drawn := hm.drawn
          have eo : os' = s.os := hm.os
          subst eg; subst ed; subst eo
          show wpAny _ _ _ _ _ _
          refine wpAny_pure ?_
          show wpAny _ _ (ret Value.none) _ _ _
          refine wpAny_pure ⟨rfl, h', tk', us, rfl, hS', hl', fun k => ?_, fun b o e => ?_⟩
          · rw [hu' k, List.mem_map]
            exact ⟨fun ⟨c, q1, q2⟩ => ⟨c, q1, q2.symm⟩, fun ⟨c, q1, q2⟩ => ⟨c, q1, q2.symm⟩⟩
          · have b0 : b < s.heap.objs.size := Heap.lt_size e
            have b2 : b ≠ (s.heap.push (newSet w)).objs.size := by
              rw [Heap.size_push]; exact Nat.ne_of_lt (Nat.lt_succ_of_lt b0)
            exact hm.heap b o (by simp only [List.mem_cons, List.mem_singleton, List.not_mem_nil, or_false, not_or]; exact ⟨Nat.ne_of_lt b0, b2⟩) (Heap.get?_push_of_some _ (Heap.get?_push_of_some _ e))
      · cases r2 with
        | error e => exact hr2
        | ok fl2 =>
          cases fl2 with
          | ret r =>
            obtain ⟨rfl, h', tk, us, rfl, q1, q2, q3, q4⟩ := hr2
            repeat (any_goals (first | assumption | wp_step))
            exact h _ _ _ q1 q2 q3 q4
          | _ => exact hr2.elim
    | _ => exact hr.elim
end
end DL
namespace DL
open PySem L2
/-- each once -/
def dd {κ : Type} [DecidableEq κ] : List κ → List κ
  | [] => []
  | c :: l => if c ∈ dd l then dd l else c :: dd l
theorem mem_dd {κ : Type} [DecidableEq κ] {c : κ} : ∀ {l : List κ}, c ∈ dd l ↔ c ∈ l
  | [] => by simp [dd]
  | x :: l => by
    unfold dd
    by_cases h : x ∈ dd l
    · rw [if_pos h, mem_dd, List.mem_cons]
      exact ⟨.inr, fun z => z.elim (fun e => by rw [e]; exact mem_dd.mp h) id⟩
    · rw [if_neg h, List.mem_cons, mem_dd, List.mem_cons]
theorem nodup_dd {κ : Type} [DecidableEq κ] : ∀ l : List κ, (dd l).Nodup
  | [] => List.nodup_nil
  | x :: l => by
    unfold dd
    by_cases h : x ∈ dd l
    · rw [if_pos h]; exact nodup_dd l
    · rw [if_neg h]; exact List.nodup_cons.mpr ⟨h, nodup_dd l⟩
theorem dd_len {κ : Type} [DecidableEq κ] : ∀ l : List κ, (dd l).length ≤ l.length
  | [] => Nat.le_refl _
  | x :: l => by
    have := dd_len l
    unfold dd
    split
    · rw [List.length_cons]; omega
    · rw [List.length_cons, List.length_cons]; omega
section
variable {X : Cx} {pins : List (Addr × Obj)} {σ : L2.St} {H : Hp} {s : Shared}
theorem els_vals {P : Program} {w : World} : ∀ {es : List (Int × Value)} {us : List Str}, Els (strKind P w) es us → Vals (us.map V.str) (es.map (·.2))
  | _, _, .nil => .nil
  | _, _, .cons (e := e) h t => by
    obtain ⟨u, hu⟩ := Value.isStrOf_shape h.1
    exact .cons ⟨u, hu⟩ (els_vals t)
theorem vals_perm {xs : List V} {us us2 : List Value} (p : us.Perm us2) : ∀ {xs : List V}, Vals xs us → ∃ xs2, xs.Perm xs2 ∧ Vals xs2 us2 := by
  induction p with
  | nil => intro xs h; exact ⟨xs, .refl _, h⟩
  | cons x q ih =>
    intro xs h
    cases h with
    | cons h t =>
      obtain ⟨ks2, p2, t2⟩ := ih t
      exact ⟨_ :: ks2, p2.cons _, .cons h t2⟩
  | swap x y l =>
    intro xs h
    cases h with
    | cons h1 t =>
      cases t with
      | cons h2 t => exact ⟨_, .swap _ _ _, .cons h2 (.cons h1 t)⟩
  | trans p1 p2 ih1 ih2 =>
    intro xs h
    obtain ⟨k1, q1, t1⟩ := ih1 h
    obtain ⟨k2, q2, t2⟩ := ih2 t1
    exact ⟨k2, q1.trans q2, t2⟩
theorem signs_rp {K : Fg} {H : Hp} : ∀ cs : List Nat, RpAll K H (signs cs) (cs.map fun c => V.str (S [c]))
  | [] => .nil
  | c :: cs => .cons (by unfold Rp; rfl) (signs_rp cs)
theorem map_str_inv : ∀ {xs : List V} {cs : List Nat}, (cs.map fun c => V.str (S [c])).Perm xs → ∃ ds : List Nat, cs.Perm ds ∧ xs = ds.map fun c => V.str (S [c]) := by
  intro xs cs h
  generalize e : (cs.map fun c => V.str (S [c])) = ys at h
  induction h generalizing cs with
  | nil =>
    cases cs with
    | nil => exact ⟨[], .refl _, rfl⟩
    | cons _ _ => cases e
  | cons x p ih =>
    cases cs with
    | nil => cases e
    | cons c cs =>
      cases e
      obtain ⟨ds, h1, h2⟩ := ih rfl
      exact ⟨c :: ds, h1.cons c, by rw [h2]; rfl⟩
  | swap x y l =>
    cases cs with
    | nil => cases e
    | cons c cs =>
      cases cs with
      | nil => cases e
      | cons c2 cs =>
        cases e
        exact ⟨c2 :: c :: cs, .swap _ _ _, rfl⟩
  | trans p1 p2 ih1 ih2 =>
    obtain ⟨ds, h1, h2⟩ := ih1 e
    obtain ⟨ds2, h3, h4⟩ := ih2 h2.symm
    exact ⟨ds2, h1.trans h3, h4⟩
theorem inv_drawn (I : Inv X pins σ H s) (d : Drawn) : Inv X pins σ H { s with drawn := d } :=
  I.step (h' := s.heap) (g' := s.gens) (t' := s.toks) (d' := d) (ch := []) (fun _ z => nomatch z) (fun b o _ _ _ e _ => e) (fun b o _ _ _ e _ => ⟨o.slots, e⟩) (fun _ _ _ _ n => n) (fun b o _ e => ⟨o, e⟩) (fun _ _ e => e) (fun _ _ _ e => e) (fun b ps e => ⟨#[], by rw [e]; simp⟩) (fun m hm => hm) I.hok I.bare
/-- sorted(a), a the set of these signs -/
theorem sort_set_txt (hc : X.calm = true) (hu : X.A.units + 64 < cLine) (I : Inv X pins σ H s) {a : Addr} {us : List Str} (R : SetG (strKind X.prog X.w) s.heap a us) (cs : List Nat) (hcs : us.Perm (cs.map fun c => S [c])) (hsg : ∀ c ∈ cs, c < 0x110000) (hlen : cs.length ≤ big) {Q : VK} {E : Value → Shared → Prop}
    (q : ∀ p ys, H p = none → RpAll X.K H (signs (sortN cs)) ys → Q (.ref p) (upd H p (.lst ys))) : wpAny (model X.prog X.w) X.A (call (.builtin "sorted") [.ref a]) (fun v s' => ∃ x H', Inv X pins σ H' s' ∧ RelV x v ∧ Q x H') E s := by
  obtain ⟨o, es, ep, t, ho, hx, hd, ge, nd, hb, hf, hr, hl⟩ := R
  refine PyProof.Rows.call_function_entry_kw PyProof.Rows.kind_sorted PyProof.Rows.plain_sorted PyProof.Rows.entry_sorted (PyProof.Rows.args_sorted1 _) ?_
  show wpAny _ X.A.in1 (Builtin.«sorted» ⟨[.ref a], []⟩) _ _ s
  unfold Builtin.«sorted»
  refine wpAny_bind (m := checkCount "sorted" 1 1 _) (wpAny_pure ?_)
  have hh : X.A.in1.handled = none := I.ok.hd hc
  refine wpAny_bind (collect_set (A := X.A.in1) hh ⟨o, ho, hx.1, hd⟩ hf hb hr hl fun s1 its k1 hz g1 o1 pm => ?_)
  obtain ⟨xs, p1, rv⟩ := vals_perm (xs := []) pm.symm (els_vals ge)
  have p2 : (cs.map fun c => V.str (S [c])).Perm xs := by
    have z := hcs.map V.str
    rw [List.map_map] at z
    exact z.symm.trans p1
  obtain ⟨ds, p3, rfl⟩ := map_str_inv p2
  obtain ⟨hp1, g', d', t', o'⟩ := s1
  have e1 : o' = s.os := o1
  have e2 : g' = s.gens := g1
  subst e1 e2
  have I' : Inv X pins σ H { s with heap := hp1, drawn := d', toks := t' } := by
    have I1 : Inv X pins σ H { s with heap := hp1, toks := t' } := I.kept k1
    exact inv_drawn I1 d'
  have hsg2 : ∀ c ∈ ds, c < 0x110000 := fun c hc => hsg c (p3.mem_iff.mpr hc)
  have hln : ds.length ≤ big := by rw [← p3.length_eq]; exact hlen
  have hr : RpAll X.K H (signs ds) (ds.map fun c => V.str (S [c])) := signs_rp ds
  have hL : its.length ≤ sizeLine := by
    rw [← rv.length, List.length_map]
    exact big_le hln
  have hlz : (signs ds).length ≤ big := by unfold signs; rw [List.length_map]; exact hln
  refine wpAny_bind (wpAny_newList ?_ hL)
  have hf : H hp1.objs.size = none := I'.hok.fresh (Nat.le_refl _)
  have hsh : shpAll 9 (signs ds) = true := shp_signs hsg2
  have hal := alk_ok (alk_signs ds)
  have hso := srt_ok (srt_signs ds)
  generalize ds.map (fun c => V.str (S [c])) = xs at rv hr
  obtain ⟨e1, e2⟩ := each_pairs (n := 9) I' hsh hr rv
  have hat : (hp1.push (PyProof.Rows.seqObj "list" its.toArray 0)).get? hp1.objs.size = some (PyProof.Rows.seqObj "list" its.toArray 0) := Heap.get?_push_size _ rfl
  have lz : ((signs ds).zip xs).length ≤ sizeLine := by
    rw [List.length_zip, hr.length, Nat.min_self]
    exact big_le hlz
  have em : ((signs ds).zip xs).map (fun b => toPy b.1) = (signs ds).map toPy := by
    have : ((signs ds).zip xs).map (fun b => toPy b.1) = (((signs ds).zip xs).map (·.1)).map toPy := by rw [List.map_map]; rfl
    rw [this, zip_fst hr.length]
  refine wpAny_bind (wpAny_holding (PySem.W.list_sort_data (s := { s with heap := hp1.push (PyProof.Rows.seqObj "list" its.toArray 0), drawn := d', toks := t' }) (enc := fun b : D × V => toPy b.1) (R := fun u b => RelV b.2 u) hat e1 (e2.mono fun u b ⟨as, h1, h2⟩ => ⟨as, PyProof.Rows.Reads.keeps (fun b o e => Heap.get?_push_of_some _ e) h1, h2⟩) (by rw [em]; exact hal) (by rw [em]; exact hso) lz (fun b hb => ?_) fun out _ hout => ?_))
  · have hb1 : b.1 ∈ signs ds := by
      have := List.mem_map_of_mem (f := (·.1)) hb
      rw [zip_fst hr.length] at this
      exact this
    have := (shp_lay 9 b.1 (shpAll_mem hsh _ hb1)).2
    show X.A.units + 1 + 1 + (toPy b.1).depth < cLine
    omega
  · refine wpAny_pure ⟨_, rfl, ?_⟩
    have vo := vals_of_each (R := fun _ _ => True) hout
    have es2 : (((signs ds).zip xs).mergeSort (PySem.W.dataLe false fun b : D × V => toPy b.1)).map (·.1) = sortD (signs ds) := by
      unfold sortD
      have z := List.map_mergeSort (r := PySem.W.dataLe false fun b : D × V => toPy b.1) (s := fun a b => PySem.W.dataLe false toPy a b) (f := fun b : D × V => b.1) (l := (signs ds).zip xs) (fun a _ b _ => rfl)
      rw [z, zip_fst hr.length]
    have rs : RpAll X.K H (signs (sortN cs)) ((((signs ds).zip xs).mergeSort (PySem.W.dataLe false fun b : D × V => toPy b.1)).map (·.2)) := by
      have e3 : signs (sortN cs) = sortD (signs ds) := by rw [sortD_signs, sortN_eq.mpr p3]
      rw [e3, ← es2]
      exact pairs_rp fun z hz => rp_pairs hr z (List.mem_mergeSort.mp hz)
    refine ⟨.ref hp1.objs.size, _, I'.laid (t' := t') (o := .lst _) (fun b o e => ?_) (Nat.le_refl _) ⟨?_, out, (PyProof.Rows.sortedHeap_at (vs := its) (out := out.toArray) hat).choose, vo, ?_⟩, rfl, q _ _ hf rs⟩
    · rw [PyProof.Rows.sortedHeap_old (Nat.ne_of_lt (Heap.lt_size e)) (by rw [Heap.size_push]; exact Nat.lt_succ_of_lt (Heap.lt_size e))]
      exact Heap.get?_push_of_some _ e
    · rw [List.length_map, List.length_mergeSort]
      exact lz
    · exact (PyProof.Rows.sortedHeap_at (vs := its) (out := out.toArray) hat).choose_spec
end
end DL
namespace DL
open PySem L2
section
variable {X : Cx} {cl : Nat → Addr} {W : WX} {a : Expr} {ta : TE} {f : Dv → Res D} {p p2 q pos : Pos}
def tSortSet (K : Fg) (ta : TE) : TE := fun σ H Q => ta σ H fun x H1 => ∃ l : List Nat, x = .str (S l) ∧ l.length ≤ 4000 ∧ (∀ c ∈ l, c < 0x110000) ∧ ∀ p ys, H1 p = none → RpAll K H1 (signs (sortN (dd l))) ys → Q (.ref p) (upd H1 p (.lst ys))
theorem set_perm {l : List Nat} {us : List Str} (nd : us.Nodup) (hu : ∀ k, k ∈ us ↔ ∃ c ∈ l, k = ⟨#[c]⟩) : us.Perm ((dd l).map fun c => S [c]) := by
  have inj : ∀ a b : Nat, S [a] = S [b] → a = b := fun a b z => by have := S_inj z; simpa using this
  refine (List.perm_ext_iff_of_nodup nd ?_).mpr fun k => ?_
  · have := nodup_dd l
    generalize dd l = m at this
    induction m with
    | nil => exact List.nodup_nil
    | cons c m ih =>
      obtain ⟨h1, h2⟩ := List.nodup_cons.mp this
      rw [List.map_cons]
      refine List.nodup_cons.mpr ⟨fun z => ?_, ih h2⟩
      obtain ⟨d, hd, e⟩ := List.mem_map.mp z
      exact h1 (inj _ _ e ▸ hd)
  · rw [hu k, List.mem_map]
    constructor
    · rintro ⟨c, h1, rfl⟩
      exact ⟨c, mem_dd.mpr h1, rfl⟩
    · rintro ⟨c, h1, rfl⟩
      exact ⟨c, mem_dd.mp h1, rfl⟩
theorem pe_sortset (hc : X.calm = true) (hu : X.A.units + 64 < cLine) (hm : X.mg "sorted" = none) (hm2 : X.mg "set" = none) (ha : PE X a ta) (hg : Gl X "sorted" := by rfl) (hg2 : Gl X "set" := by rfl)
    (na : starEach [a] X.env = (false, eval a X.env) :: starEach [] X.env := by rfl) : PE X (.Call (.Name "sorted" p) [.Call (.Name "set" p2) [a] [] q] [] pos) (tSortSet X.K ta) := by
  refine ⟨fun pins s σ H Q I h => ?_⟩
  refine PyProof.Rows.Call_ (ld_blt I hg hm PyProof.Rows.boot_sorted ?_)
  refine PyProof.Rows.callWith_builtin1 (PyProof.Rows.args_cons ?_ rfl) rfl rfl
  refine PyProof.Rows.Call_ (ld_blt I hg2 hm2 PyProof.Rows.boot_set ?_)
  refine PyProof.Rows.callWith_type1 (PyProof.Rows.args_cons (thn (ha.run pins s σ H _ I h) fun v s1 ⟨x, H1, I1, r1, q1⟩ => PyProof.Rows.args_nil ?_) na) na rfl
  obtain ⟨l, rfl, hl, hs, q1⟩ := q1
  obtain ⟨t, rfl⟩ := r1
  have sz : (S l).cps.size = l.length := by simp [S]
  refine call_set_txt (I1.ok.hd hc) (by rw [sz]; unfold scanBound; omega) fun h' tk us R hlen hmem hk => ?_
  refine PyProof.Rows.args_nil ?_
  have I2 : Inv X pins σ H1 { s1 with heap := h', toks := tk } := I1.kept hk
  have nd : us.Nodup := by
    obtain ⟨o, es, ep, t, _, _, _, _, nd, _⟩ := R
    exact nd
  have dl := dd_len l
  exact sort_set_txt hc hu I2 R (dd l) (set_perm nd (by simpa [S] using hmem)) (fun c hc => hs c (mem_dd.mp hc)) (by unfold big; omega) q1
def cSortSet (d : D) : Res D := match d with
  | .str l => Res.need (l.length ≤ 4000 ∧ (l.all fun c => decide (c < 0x110000)) = true) (.ok (.list (signs (sortN (dd l)))))
  | _ => .stuck
theorem q_sortset (hc : X.calm = true) (hu : X.A.units + 64 < cLine) (hm : X.mg "sorted" = none) (hm2 : X.mg "set" = none) (ha : QE X cl W a ta f) (hg : Gl X "sorted" := by rfl) (hg2 : Gl X "set" := by rfl)
    (na : starEach [a] X.env = (false, eval a X.env) :: starEach [] X.env := by rfl) : QF X cl W (.Call (.Name "sorted" p) [.Call (.Name "set" p2) [a] [] q] [] pos) (tSortSet X.K ta) (fun δ => (f δ).bind cSortSet) := by
  refine ⟨pe_sortset hc hu hm hm2 ha.pe hg hg2 na, fun δ σ H Q en po => ?_⟩
  show ta σ H _
  refine ha.sim.chain (P := fun H r => PostF X.K cl W σ H r Q) en po (fun c h => h) (fun H h => h) fun d v H1 _ s1 r1 p1 => ?_
  have p2 := p1.weak s1
  unfold cSortSet at p2
  cases d with
  | str l =>
    obtain ⟨⟨c1, c2⟩, p3⟩ := need_on p2
    unfold Rp at r1
    subst r1
    refine ⟨l, rfl, c1, fun c hc => by simpa using List.all_eq_true.mp c2 c hc, fun p ys hp hy => ?_⟩
    have s := same_new (o := .lst ys) hp
    exact p3 _ _ s (rpl upd_same (RpAll.mono s _ _ hy)) (fresh_of hp)
  | _ => exact p2.elim
/-! ### len(set(z)) -/
def tLenSet (ta : TE) : TE := fun σ H Q => ta σ H fun x H1 => ∃ l : List Nat, x = .str (S l) ∧ l.length ≤ 4000 ∧ Q (.int ((dd l).length : Nat)) H1
theorem pe_lenset (hc : X.calm = true) (hm : X.mg "len" = none) (hm2 : X.mg "set" = none) (ha : PE X a ta) (hg : Gl X "len" := by rfl) (hg2 : Gl X "set" := by rfl)
    (na : starEach [a] X.env = (false, eval a X.env) :: starEach [] X.env := by rfl) : PE X (.Call (.Name "len" p) [.Call (.Name "set" p2) [a] [] q] [] pos) (tLenSet ta) := by
  refine ⟨fun pins s σ H Q I h => ?_⟩
  refine PyProof.Rows.Call_ (ld_blt I hg hm PySem.boot_len ?_)
  refine PyProof.Rows.callWith_builtin1 (PyProof.Rows.args_cons ?_ rfl) rfl rfl
  refine PyProof.Rows.Call_ (ld_blt I hg2 hm2 PyProof.Rows.boot_set ?_)
  refine PyProof.Rows.callWith_type1 (PyProof.Rows.args_cons (thn (ha.run pins s σ H _ I h) fun v s1 ⟨x, H1, I1, r1, q1⟩ => PyProof.Rows.args_nil ?_) na) na rfl
  obtain ⟨l, rfl, hl, q1⟩ := q1
  obtain ⟨t, rfl⟩ := r1
  have sz : (S l).cps.size = l.length := by simp [S]
  refine call_set_txt (I1.ok.hd hc) (by rw [sz]; unfold scanBound; omega) fun h' tk us R hlen hmem hk => ?_
  refine PyProof.Rows.args_nil ?_
  have I2 : Inv X pins σ H1 { s1 with heap := h', toks := tk } := I1.kept hk
  obtain ⟨o, es, ep, t2, ho, hx, hd, ge, nd, hb, hf, _⟩ := R
  have e : es.size = (dd l).length := by
    rw [← Array.length_toList, ge.len, (set_perm nd (by simpa [S] using hmem)).length_eq, List.length_map]
  have dl := dd_len l
  refine PySem.call_len_set ho hx hd hf (by rw [e]; omega) ⟨.int ((dd l).length : Nat), H1, I2.tok _, ⟨_, by rw [e]⟩, q1⟩
def cLenSet (d : D) : Res D := match d with
  | .str l => Res.need (l.length ≤ 4000) (.ok (.int ((dd l).length : Nat)))
  | _ => .stuck
theorem q_lenset (hc : X.calm = true) (hm : X.mg "len" = none) (hm2 : X.mg "set" = none) (ha : QE X cl W a ta f) (hg : Gl X "len" := by rfl) (hg2 : Gl X "set" := by rfl)
    (na : starEach [a] X.env = (false, eval a X.env) :: starEach [] X.env := by rfl) : QF X cl W (.Call (.Name "len" p) [.Call (.Name "set" p2) [a] [] q] [] pos) (tLenSet ta) (fun δ => (f δ).bind cLenSet) := by
  refine ⟨pe_lenset hc hm hm2 ha.pe hg hg2 na, fun δ σ H Q en po => ?_⟩
  show ta σ H _
  refine ha.sim.chain (P := fun H r => PostF X.K cl W σ H r Q) en po (fun c h => h) (fun H h => h) fun d v H1 _ s1 r1 p1 => ?_
  have p2 := p1.weak s1
  unfold cLenSet at p2
  cases d with
  | str l =>
    obtain ⟨c1, p3⟩ := need_on p2
    unfold Rp at r1
    subst r1
    exact ⟨l, rfl, c1, p3 _ H1 (Same.refl H1) (rpi _) (fresh_no rfl)⟩
  | _ => exact p2.elim
end
end DL
namespace DL
open PySem L2 PySem.Spec PyProof.Rows
section
variable {P : Program} {w : World} {A : Around} {E : Value → Shared → Prop} {s : Shared}
/-- set(xs), xs a list of numbers -/
theorem call_set_ints {l : Addr} {items : Array Value} {ns : List Int} {Q : Value → Shared → Prop} (hh : A.handled = none) (hl : s.heap.IsList l items) (hi : IntsAre items.toList ns) (hn : items.size = ns.length) (hb : ns.length + 1 < scanBound)
    (h : ∀ (h' : Heap) (tk : Nat) (us : List Int), SetG (intKind P w) h' s.heap.objs.size us → us.length ≤ ns.length → (∀ k, k ∈ us ↔ k ∈ ns) → (∀ b o, s.heap.get? b = some o → h'.get? b = some o) → Q (.ref s.heap.objs.size) { s with heap := h', toks := tk }) :
    wpAny (model P w) A (call (.type "set") [.ref l]) Q E s := by
  obtain ⟨c, tl, hmro⟩ := F.called_set.mro
  have hmade := F.called_set.made
  have hsub := F.called_set.sub
  refine wpAny_call (codeAny_of_tree ?_)
  show wpAny _ _ (callAny (.type "set") _) _ _ _
  refine wpAny_pure ⟨Code.quiet_builtin _ (by decide +kernel), codeAny_builtin F.entry_type_call ?_⟩
  rw [Around.under_plain (weight_type_call_type "set" [.ref l] []) rfl]
  have k1 := F.called_set.notType
  have k2 := F.called_set.canCreate
  have k3 := F.typeCall_set_1 (.ref l)
  repeat (any_goals (first | assumption | wp_step))
  refine codeAny_mono (code_set_led1 (.ref l) (E := E) (Q₁ := fun obj s1 => obj = .ref s.heap.objs.size ∧ s1 = { s with heap := s.heap.push (newSet w) }) ⟨rfl, rfl⟩) fun r s1 hr => ?_
  cases r with
  | error e => exact hr
  | ok fl =>
    cases fl with
    | ret obj =>
      obtain ⟨rfl, rfl⟩ := hr
      have at0 : (s.heap.push (newSet w)).get? s.heap.objs.size = some (newSet w) := Heap.get?_push_size _ rfl
      have hT : Shared.TypeIs { s with heap := s.heap.push (newSet w) } (.ref s.heap.objs.size) "set" := ⟨_, at0, rfl⟩
      have i1 := F.called_set.init.lookup
      have i2 := F.called_set.init.bind (.ref s.heap.objs.size)
      repeat (any_goals (first | assumption | wp_step))
      refine codeAny_mono (codeAny_call_builtin (R := wants (fun r s2 => r = .none ∧ ∃ h' tk us, s2 = { s with heap := h', toks := tk } ∧ SetG (intKind P w) h' s.heap.objs.size us ∧ us.length ≤ ns.length ∧ (∀ k, k ∈ us ↔ k ∈ ns) ∧
          (∀ b o, s.heap.get? b = some o → h'.get? b = some o)) E) F.called_set.init.plain F.entry_set_init (check_set_init_1 hT ?_)) fun r2 s2 hr2 => ?_
      · obtain ⟨ol, hol, hcl, nl, hdl⟩ := hl
        obtain ⟨oc, od, oda, osl⟩ := ol
        simp only at hcl hdl
        subst hcl
        subst hdl
        have hol2 : (s.heap.push (newSet w)).get? l = some { cls := .type "list", dict := od, data := .seq items nl, slots := osl } := Heap.get?_push_of_some _ hol
        have j1 := F.sub_list_set
        have j2 := F.sub_list_frozenset
        have j3 : (Value.type "list" == Value.type "dict") = false := by decide
        have hl1 : (s.heap.push (newSet w)).IsList l items := ⟨_, hol2, rfl, nl, rfl⟩
        unfold Builtin.«set.__init__» noKeywords Builtin.Frozenset.updateFrom
        generalize hPI : pyIter = PI
        wp_walk
        subst hPI
        refine wpAny_pyIter_list hl1 ?_
        refine wpAny_bind (wpAny_runValue ?_)
        have ls : l < s.heap.objs.size := Heap.lt_size hol
        have hh3 : A.in1.in1.in1.handled = none := by simp [hh]
        have z1 : (s.heap.push (newSet w)).objs.size = s.heap.objs.size + 1 := Heap.size_push ..
        have lne : l ≠ (s.heap.push (newSet w)).objs.size := by rw [z1]; exact Nat.ne_of_lt (Nat.lt_succ_of_lt ls)
        have nf : s.heap.objs.size ∉ [(s.heap.push (newSet w)).objs.size, l] := by
          rw [z1]
          simp only [List.mem_cons, List.mem_singleton, List.not_mem_nil, or_false, not_or]
          exact ⟨Nat.ne_of_lt (Nat.lt_succ_self _), Nat.ne_of_gt ls⟩
        have hval : ∀ (i : Nat) (v : Value), items[i]? = some v → ∃ k, ns[i]? = some k ∧ (intKind P w).is k v = true ∧ v.scannable = true := fun i v hv => by
          obtain ⟨t, rfl⟩ := IntsAre.int_at hi i v (by rw [Array.getElem?_toList]; exact hv)
          have hil : i < ns.length := by rw [← hn]; exact (Array.getElem?_eq_some_iff.mp hv).1
          refine ⟨ns.getD i 0, by rw [List.getD_eq_getElem?_getD, List.getElem?_eq_getElem hil]; rfl, ?_, rfl⟩
          exact PySem.intKind_is P w _ _
        refine setG_fill (kn := intKind P w) ((Walks.list hh3 _ l lne items).toS) s.heap.objs.size nf ns hn hb hval (items.size - 0) 0 _ (by omega) (Nat.zero_le _) ⟨⟨_, Heap.get?_push_size _ rfl, rfl, rfl⟩, (hl1.push _)⟩ ?_ ?_
        · exact ⟨[], Nat.le_refl 0, fun y => by simp, setG_new (Heap.get?_push_of_some _ at0)⟩
        · intro s' us hm hl' hu' hS'
          obtain ⟨h', g2, d', tk', os'⟩ := s'
          have eg : g2 = s.gens := hm.gens
          have ed : d' = s.drawn := hm.drawn
          have eo : os' = s.os := hm.os
          subst eg; subst ed; subst eo
          show wpAny _ _ _ _ _ _
          refine wpAny_pure ?_
          show wpAny _ _ (ret Value.none) _ _ _
          refine wpAny_pure ⟨rfl, h', tk', us, rfl, hS', Nat.le_trans hl' (Nat.le_of_eq hn), fun k => ?_, fun b o e => ?_⟩
          · exact hu' k
          · have b0 : b < s.heap.objs.size := Heap.lt_size e
            have b2 : b ≠ (s.heap.push (newSet w)).objs.size := by
              rw [Heap.size_push]; exact Nat.ne_of_lt (Nat.lt_succ_of_lt b0)
            exact hm.heap b o (by simp only [List.mem_cons, List.mem_singleton, List.not_mem_nil, or_false, not_or]; exact ⟨Nat.ne_of_lt b0, b2⟩) (Heap.get?_push_of_some _ (Heap.get?_push_of_some _ e))
      · cases r2 with
        | error e => exact hr2
        | ok fl2 =>
          cases fl2 with
          | ret r =>
            obtain ⟨rfl, h', tk, us, rfl, q1, q2, q3, q4⟩ := hr2
            repeat (any_goals (first | assumption | wp_step))
            exact h _ _ _ q1 q2 q3 q4
          | _ => exact hr2.elim
    | _ => exact hr.elim
end
end DL
namespace DL
open PySem L2
def sortZ (l : List Int) : List Int := l.mergeSort fun a b => decide (a ≤ b)
theorem pyZ (i : Int) : toPy (.int i) = .int i := by unfold toPy; rfl
theorem leZ (a b : Int) : PySem.W.dataLe false toPy (.int a) (.int b) = decide (a ≤ b) := by
  rw [PySem.W.dataLe_eq]
  show (!PySem.W.dataLt (toPy (.int b)) (toPy (.int a))) = _
  rw [pyZ, pyZ, PySem.W.dataLt_int]
  by_cases h : b < a
  · have : ¬ a ≤ b := by omega
    simp [h, this]
  · have : a ≤ b := by omega
    simp [h, this]
theorem sortD_Z (l : List Int) : sortD (l.map D.int) = (sortZ l).map D.int := by
  unfold sortD sortZ
  symm
  exact List.map_mergeSort (f := D.int) (r := fun a b => decide (a ≤ b)) (s := fun a b => PySem.W.dataLe false toPy a b) fun a _ b _ => (leZ a b).symm
theorem sortZ_perm (l : List Int) : (sortZ l).Perm l := List.mergeSort_perm _ _
theorem sortZ_up (l : List Int) : (sortZ l).Pairwise fun p q => p ≤ q := by
  have := List.pairwise_mergeSort (le := fun a b : Int => decide (a ≤ b)) (fun a b c h1 h2 => by simp at *; omega) (fun a b => by simp; omega) l
  exact this.imp fun h => by simpa using h
theorem sortZ_eq {ps qs : List Int} (h : ps.Perm qs) : sortZ ps = sortZ qs :=
  ((sortZ_perm ps).trans (h.trans (sortZ_perm qs).symm)).eq_of_pairwise (fun a b _ _ h1 h2 => by omega) (sortZ_up ps) (sortZ_up qs)
theorem alkZ (P : List Int) : alk (P.map D.int) = true := by
  unfold alk
  rw [List.all_eq_true]
  intro a ha
  rw [List.all_eq_true]
  intro b hb
  obtain ⟨x, _, rfl⟩ := List.mem_map.mp ha
  obtain ⟨y, _, rfl⟩ := List.mem_map.mp hb
  rw [pyZ, pyZ]
  simp [PySem.W.alike]
theorem srtZ (P : List Int) : srt (P.map D.int) = true := by
  unfold srt
  rw [Bool.or_eq_true]
  right
  rw [List.all_eq_true]
  intro a ha
  obtain ⟨x, _, rfl⟩ := List.mem_map.mp ha
  rfl
theorem shpZ : ∀ (P : List Int) (n : Nat), shpAll n (P.map D.int) = true
  | [], n => by cases n <;> rfl
  | a :: P, n => by
    show shpAll n (.int a :: P.map D.int) = true
    unfold shpAll
    rw [shpZ P n]
    cases n <;> rfl
theorem ints_rp {K : Fg} {H : Hp} : ∀ cs : List Int, RpAll K H (cs.map D.int) (cs.map fun c => V.int c)
  | [] => .nil
  | c :: cs => .cons (by unfold Rp; rfl) (ints_rp cs)
section
variable {X : Cx} {pins : List (Addr × Obj)} {σ : L2.St} {H : Hp} {s : Shared}
theorem els_valsI {P : Program} {w : World} : ∀ {es : List (Int × Value)} {us : List Int}, Els (PySem.intKind P w) es us → Vals (us.map V.int) (es.map (·.2))
  | _, _, .nil => .nil
  | _, _, .cons (e := e) h t => by
    obtain ⟨u, hu⟩ := Value.isInt_shape h.1
    exact .cons ⟨u, hu⟩ (els_valsI t)
theorem map_int_inv : ∀ {xs : List V} {cs : List Int}, (cs.map fun c => V.int c).Perm xs → ∃ ds : List Int, cs.Perm ds ∧ xs = ds.map fun c => V.int c := by
  intro xs cs h
  generalize e : (cs.map fun c => V.int c) = ys at h
  induction h generalizing cs with
  | nil =>
    cases cs with
    | nil => exact ⟨[], .refl _, rfl⟩
    | cons _ _ => cases e
  | cons x p ih =>
    cases cs with
    | nil => cases e
    | cons c cs =>
      cases e
      obtain ⟨ds, h1, h2⟩ := ih rfl
      exact ⟨c :: ds, h1.cons c, by rw [h2]; rfl⟩
  | swap x y l =>
    cases cs with
    | nil => cases e
    | cons c cs =>
      cases cs with
      | nil => cases e
      | cons c2 cs =>
        cases e
        exact ⟨c2 :: c :: cs, .swap _ _ _, rfl⟩
  | trans p1 p2 ih1 ih2 =>
    obtain ⟨ds, h1, h2⟩ := ih1 e
    obtain ⟨ds2, h3, h4⟩ := ih2 h2.symm
    exact ⟨ds2, h1.trans h3, h4⟩
/-- sorted(a), a the set of these numbers -/
theorem sort_set_ints (hc : X.calm = true) (hu : X.A.units + 64 < cLine) (I : Inv X pins σ H s) {a : Addr} {us : List Int} (R : SetG (PySem.intKind X.prog X.w) s.heap a us) (cs : List Int) (hcs : us.Perm cs) (hlen : cs.length ≤ big) {Q : VK} {E : Value → Shared → Prop}
    (q : ∀ p ys, H p = none → RpAll X.K H ((sortZ cs).map D.int) ys → Q (.ref p) (upd H p (.lst ys))) : wpAny (model X.prog X.w) X.A (call (.builtin "sorted") [.ref a]) (fun v s' => ∃ x H', Inv X pins σ H' s' ∧ RelV x v ∧ Q x H') E s := by
  obtain ⟨o, es, ep, t, ho, hx, hd, ge, nd, hb, hf, hr, hl⟩ := R
  refine PyProof.Rows.call_function_entry_kw PyProof.Rows.kind_sorted PyProof.Rows.plain_sorted PyProof.Rows.entry_sorted (PyProof.Rows.args_sorted1 _) ?_
  show wpAny _ X.A.in1 (Builtin.«sorted» ⟨[.ref a], []⟩) _ _ s
  unfold Builtin.«sorted»
  refine wpAny_bind (m := checkCount "sorted" 1 1 _) (wpAny_pure ?_)
  have hh : X.A.in1.handled = none := I.ok.hd hc
  refine wpAny_bind (collect_set (A := X.A.in1) hh ⟨o, ho, hx.1, hd⟩ hf hb hr hl fun s1 its k1 hz g1 o1 pm => ?_)
  obtain ⟨xs, p1, rv⟩ := vals_perm (xs := []) pm.symm (els_valsI ge)
  have p2 : (cs.map fun c => V.int c).Perm xs := by
    have z := hcs.map V.int
    exact z.symm.trans p1
  obtain ⟨ds, p3, rfl⟩ := map_int_inv p2
  obtain ⟨hp1, g', d', t', o'⟩ := s1
  have e1 : o' = s.os := o1
  have e2 : g' = s.gens := g1
  subst e1 e2
  have I' : Inv X pins σ H { s with heap := hp1, drawn := d', toks := t' } := by
    have I1 : Inv X pins σ H { s with heap := hp1, toks := t' } := I.kept k1
    exact inv_drawn I1 d'
  have hln : ds.length ≤ big := by rw [← p3.length_eq]; exact hlen
  have hr : RpAll X.K H (ds.map D.int) (ds.map fun c => V.int c) := ints_rp ds
  have hL : its.length ≤ sizeLine := by
    rw [← rv.length, List.length_map]
    exact big_le hln
  have hlz : (ds.map D.int).length ≤ big := by rw [List.length_map]; exact hln
  refine wpAny_bind (wpAny_newList ?_ hL)
  have hf : H hp1.objs.size = none := I'.hok.fresh (Nat.le_refl _)
  have hsh : shpAll 9 (ds.map D.int) = true := shpZ ds 9
  have hal := alk_ok (alkZ ds)
  have hso := srt_ok (srtZ ds)
  generalize ds.map (fun c => V.int c) = xs at rv hr
  obtain ⟨e1, e2⟩ := each_pairs (n := 9) I' hsh hr rv
  have hat : (hp1.push (PyProof.Rows.seqObj "list" its.toArray 0)).get? hp1.objs.size = some (PyProof.Rows.seqObj "list" its.toArray 0) := Heap.get?_push_size _ rfl
  have lz : ((ds.map D.int).zip xs).length ≤ sizeLine := by
    rw [List.length_zip, hr.length, Nat.min_self]
    exact big_le hlz
  have em : ((ds.map D.int).zip xs).map (fun b => toPy b.1) = (ds.map D.int).map toPy := by
    have : ((ds.map D.int).zip xs).map (fun b => toPy b.1) = (((ds.map D.int).zip xs).map (·.1)).map toPy := by rw [List.map_map]; rfl
    rw [this, zip_fst hr.length]
  refine wpAny_bind (wpAny_holding (PySem.W.list_sort_data (s := { s with heap := hp1.push (PyProof.Rows.seqObj "list" its.toArray 0), drawn := d', toks := t' }) (enc := fun b : D × V => toPy b.1) (R := fun u b => RelV b.2 u) hat e1 (e2.mono fun u b ⟨as, h1, h2⟩ => ⟨as, PyProof.Rows.Reads.keeps (fun b o e => Heap.get?_push_of_some _ e) h1, h2⟩) (by rw [em]; exact hal) (by rw [em]; exact hso) lz (fun b hb => ?_) fun out _ hout => ?_))
  · have hb1 : b.1 ∈ ds.map D.int := by
      have := List.mem_map_of_mem (f := (·.1)) hb
      rw [zip_fst hr.length] at this
      exact this
    have := (shp_lay 9 b.1 (shpAll_mem hsh _ hb1)).2
    show X.A.units + 1 + 1 + (toPy b.1).depth < cLine
    omega
  · refine wpAny_pure ⟨_, rfl, ?_⟩
    have vo := vals_of_each (R := fun _ _ => True) hout
    have es2 : (((ds.map D.int).zip xs).mergeSort (PySem.W.dataLe false fun b : D × V => toPy b.1)).map (·.1) = sortD (ds.map D.int) := by
      unfold sortD
      have z := List.map_mergeSort (r := PySem.W.dataLe false fun b : D × V => toPy b.1) (s := fun a b => PySem.W.dataLe false toPy a b) (f := fun b : D × V => b.1) (l := (ds.map D.int).zip xs) (fun a _ b _ => rfl)
      rw [z, zip_fst hr.length]
    have rs : RpAll X.K H ((sortZ cs).map D.int) ((((ds.map D.int).zip xs).mergeSort (PySem.W.dataLe false fun b : D × V => toPy b.1)).map (·.2)) := by
      have e3 : (sortZ cs).map D.int = sortD (ds.map D.int) := by rw [sortD_Z, sortZ_eq p3]
      rw [e3, ← es2]
      exact pairs_rp fun z hz => rp_pairs hr z (List.mem_mergeSort.mp hz)
    refine ⟨.ref hp1.objs.size, _, I'.laid (t' := t') (o := .lst _) (fun b o e => ?_) (Nat.le_refl _) ⟨?_, out, (PyProof.Rows.sortedHeap_at (vs := its) (out := out.toArray) hat).choose, vo, ?_⟩, rfl, q _ _ hf rs⟩
    · rw [PyProof.Rows.sortedHeap_old (Nat.ne_of_lt (Heap.lt_size e)) (by rw [Heap.size_push]; exact Nat.lt_succ_of_lt (Heap.lt_size e))]
      exact Heap.get?_push_of_some _ e
    · rw [List.length_map, List.length_mergeSort]
      exact lz
    · exact (PyProof.Rows.sortedHeap_at (vs := its) (out := out.toArray) hat).choose_spec
end
end DL
namespace DL
open PySem L2
section
variable {X : Cx} {cl : Nat → Addr} {W : WX} {a : Expr} {ta : TE} {f : Dv → Res D} {p p2 q pos : Pos}
def zsD : List D → Option (List Int)
  | [] => some []
  | .int i :: r => (zsD r).map (i :: ·)
  | _ :: _ => none
theorem zsD_map : ∀ ns : List Int, zsD (ns.map D.int) = some ns
  | [] => rfl
  | i :: ns => by
    show (zsD (ns.map D.int)).map (i :: ·) = _
    rw [zsD_map ns]
    rfl
theorem zsD_eq : ∀ {l : List D} {ns : List Int}, zsD l = some ns → l = ns.map D.int
  | [], ns, h => by cases h; rfl
  | d :: r, ns, h => by
    cases d with
    | int i =>
      change (zsD r).map (i :: ·) = some ns at h
      cases q : zsD r with
      | none => rw [q] at h; cases h
      | some m =>
        rw [q] at h
        cases h
        rw [zsD_eq q]
        rfl
    | _ => cases h
theorem ints_inv {K : Fg} {H : Hp} : ∀ {ns : List Int} {xs : List V}, RpAll K H (ns.map D.int) xs → xs = ns.map V.int
  | [], xs, h => by
    unfold RpAll at h
    exact h
  | i :: ns, xs, h => by
    unfold RpAll at h
    obtain ⟨v, t, rfl, h1, h2⟩ := h
    unfold Rp at h1
    rw [h1, ints_inv h2]
    rfl
def tSortSetI (K : Fg) (ta : TE) : TE := fun σ H Q => ta σ H fun x H1 => ∃ (l : Addr) (ns : List Int), x = V.ref l ∧ SqL K H1 l (ns.map V.int) ∧ ns.length ≤ 4000 ∧ ∀ p ys, H1 p = none → RpAll K H1 ((sortZ (dd ns)).map D.int) ys → Q (.ref p) (upd H1 p (.lst ys))
theorem pe_sortsetI (hc : X.calm = true) (hu : X.A.units + 64 < cLine) (hm : X.mg "sorted" = none) (hm2 : X.mg "set" = none) (ha : PE X a ta) (hg : Gl X "sorted" := by rfl) (hg2 : Gl X "set" := by rfl)
    (na : starEach [a] X.env = (false, eval a X.env) :: starEach [] X.env := by rfl) : PE X (.Call (.Name "sorted" p) [.Call (.Name "set" p2) [a] [] q] [] pos) (tSortSetI X.K ta) := by
  refine ⟨fun pins s σ H Q I h => ?_⟩
  refine PyProof.Rows.Call_ (ld_blt I hg hm PyProof.Rows.boot_sorted ?_)
  refine PyProof.Rows.callWith_builtin1 (PyProof.Rows.args_cons ?_ rfl) rfl rfl
  refine PyProof.Rows.Call_ (ld_blt I hg2 hm2 PyProof.Rows.boot_set ?_)
  refine PyProof.Rows.callWith_type1 (PyProof.Rows.args_cons (thn (ha.run pins s σ H _ I h) fun v s1 ⟨x, H1, I1, r1, q1⟩ => PyProof.Rows.args_nil ?_) na) na rfl
  obtain ⟨l, ns, rfl, hq, hl, q1⟩ := q1
  cases r1
  obtain ⟨its, r, pl, hz⟩ := I1.list hq
  have sz : its.toArray.size = ns.length := by rw [List.size_toArray, ← r.length, List.length_map]
  refine call_set_ints (I1.ok.hd hc) pl.isList (ns := ns) (by simpa using r.ints) sz (by unfold scanBound; omega) fun h' tk us R hlen hmem hk => ?_
  refine PyProof.Rows.args_nil ?_
  have I2 : Inv X pins σ H1 { s1 with heap := h', toks := tk } := I1.kept hk
  have nd : us.Nodup := by
    obtain ⟨o, es, ep, t, _, _, _, _, nd, _⟩ := R
    exact nd
  have dl := dd_len ns
  exact sort_set_ints hc hu I2 R (dd ns) ((List.perm_ext_iff_of_nodup nd (nodup_dd ns)).mpr fun k => by rw [hmem k, mem_dd]) (by unfold big; omega) q1
def cSortSetI (d : D) : Res D := match d with
  | .list l => match zsD l with
    | some ns => Res.need (ns.length ≤ 4000) (.ok (.list ((sortZ (dd ns)).map D.int)))
    | none => .stuck
  | _ => .stuck
theorem q_sortsetI (hc : X.calm = true) (hu : X.A.units + 64 < cLine) (hm : X.mg "sorted" = none) (hm2 : X.mg "set" = none) (ha : QE X cl W a ta f) (hg : Gl X "sorted" := by rfl) (hg2 : Gl X "set" := by rfl)
    (na : starEach [a] X.env = (false, eval a X.env) :: starEach [] X.env := by rfl) : QF X cl W (.Call (.Name "sorted" p) [.Call (.Name "set" p2) [a] [] q] [] pos) (tSortSetI X.K ta) (fun δ => (f δ).bind cSortSetI) := by
  refine ⟨pe_sortsetI hc hu hm hm2 ha.pe hg hg2 na, fun δ σ H Q en po => ?_⟩
  show ta σ H _
  refine ha.sim.chain (P := fun H r => PostF X.K cl W σ H r Q) en po (fun c h => h) (fun H h => h) fun d v H1 _ s1 r1 p1 => ?_
  have p2 := p1.weak s1
  unfold cSortSetI at p2
  cases d with
  | list l =>
    dsimp only at p2
    cases e : zsD l with
    | none => rw [e] at p2; exact p2.elim
    | some ns =>
      rw [e] at p2
      obtain ⟨c1, p3⟩ := need_on p2
      obtain ⟨b, xs, rfl, hb, hx⟩ := rp_list r1
      rw [zsD_eq e] at hx
      have ex := ints_inv hx
      subst ex
      refine ⟨b, ns, rfl, Or.inl (Or.inl hb), c1, fun p ys hp hy => ?_⟩
      have s := same_new (o := .lst ys) hp
      exact p3 _ _ s (rpl upd_same (RpAll.mono s _ _ hy)) (fresh_of hp)
  | _ => exact p2.elim
end
end DL
namespace DL
open PySem L2 PyProof.Rows
section
variable {prog : Program} {w : World} {A : Around} {E : Value → Shared → Prop} {s : Shared}
theorem rev_adjust (n : Nat) : Builtin.Slice.sliceAdjust none none (-1) (n : Int) = ((n : Int) - 1, -1) := by
  unfold Builtin.Slice.sliceAdjust
  simp
theorem rev_places (n : Nat) : Builtin.Slice.slicePlaces ((n : Int) - 1) (-1) (-1) = n := by
  unfold Builtin.Slice.slicePlaces
  simp
  try omega
theorem rev_pick (xs : Array Value) : ((List.range xs.size).filterMap fun (m : Nat) => xs[((xs.size : Int) - 1 + (m : Int) * (-1)).toNat]?).toArray = xs.toList.reverse.toArray := by
  congr 1
  apply List.ext_getElem?
  intro i
  have e : ∀ k, (List.range k).filterMap (fun (m : Nat) => xs[((xs.size : Int) - 1 + (m : Int) * (-1)).toNat]?) = (List.range k).filterMap fun m => xs[xs.size - 1 - m]? := by
    intro k
    congr 1
    funext m
    have : ((xs.size : Int) - 1 + (m : Int) * (-1)).toNat = xs.size - 1 - m := by omega
    rw [this]
  rw [e]
  have e2 : (List.range xs.size).filterMap (fun m => xs[xs.size - 1 - m]?) = ((List.range xs.size).map fun k => xs.size - 1 - k).filterMap fun m => xs[m]? := by
    rw [List.filterMap_map]
    rfl
  rw [e2, PySem.W.krv_range, List.filterMap_reverse, PySem.W.krv_all]
theorem get_tuple_rev {t sl : Addr} {items : Array Value} {vk : Value} {Q : Value → Shared → Prop} (ht : IsTup s.heap t items) (hs : s.heap.IsSliceOf sl .none .none vk) (pk : IsPart vk (some (-1)))
    (h : Q (.ref s.heap.objs.size) { s with heap := s.heap.push { cls := .type "tuple", data := .seq items.toList.reverse.toArray } })
    (hsz : items.size ≤ sizeLine) : wpAny (model prog w) A (getItem (.ref t) (.ref sl)) Q E s := by
  have hok : sizeOk (.seq items.toList.reverse.toArray) := by
    show items.toList.reverse.toArray.size ≤ sizeLine
    rw [List.size_toArray, List.length_reverse, Array.length_toList]
    exact hsz
  obtain ⟨os, hos, hcs, hds⟩ := id hs
  have hTs : s.TypeIs (.ref sl) "slice" := ⟨os, hos, hcs⟩
  unfold getItem
  try with_reducible refine wpAny_holding ?_
  first | refine wpAny_bind (wpAny_pure ?_) | skip
  refine wpAny_bind (wpAny_sequenceKey ht.typeIs (by decide) ?_)
  refine wpAny_bind (wpAny_callSpecial?_slot (name := Str.ofString "__getitem__") ht.typeIs slot_tuple_getitem
    (wpAny_call_entry slot_tuple_getitem ht.typeIs entry_tuple_getitem ?_ (args_tuple_getitem _ _)))
  show wpAny _ _ (Builtin.Tuple.tupleItemsOf (.ref t) >>= _) _ _ s
  refine wpAny_bind (tupleItemsOf_ ht ?_)
  refine wpAny_bind (wpAny_typeOf hTs ?_)
  rw [if_pos (by decide)]
  refine wpAny_bind (m := Builtin.Slice.sliceApplied (.ref sl) (pure (items.size : Int))) ?_
  unfold Builtin.Slice.sliceApplied Builtin.Slice.sliceFields
  refine wpAny_bind (wpAny_bind (wpAny_field hos hds (x := .none) rfl (wpAny_bind (wpAny_field hos hds (x := .none) rfl (wpAny_bind (wpAny_field hos hds (x := vk) rfl (wpAny_pure ?_)))))))
  refine wpAny_bind (HT.slicePart_ pk ?_)
  show wpAny _ _ (if ((-1 : Int) == 0) = true then _ else _) _ _ s
  rw [if_neg (by decide)]
  refine wpAny_bind (HT.slicePart_ .none (wpAny_bind (HT.slicePart_ .none (wpAny_bind (wpAny_pure ?_)))))
  show wpAny _ _ (match Builtin.Slice.sliceAdjust none none (-1) (items.size : Int) with | (lo, hi) => pure (lo, (-1 : Int), Builtin.Slice.slicePlaces lo hi (-1))) _ _ s
  rw [rev_adjust]
  show wpAny _ _ (pure ((items.size : Int) - 1, (-1 : Int), Builtin.Slice.slicePlaces ((items.size : Int) - 1) (-1) (-1))) _ _ s
  rw [rev_places]
  refine wpAny_pure ?_
  show wpAny _ _ (if (((items.size : Int) - 1) == 0 && (-1 : Int) == 1 && items.size == items.size) = true then _ else _) _ _ s
  rw [if_neg (by simp), rev_pick]
  first
    | exact wpAny_bind (m := Builtin.Tuple.tupleExact _) (wpAny_newObj_type (wpAny_pure ⟨_, rfl, wpAny_pure h⟩) hok)
    | exact wpAny_bind (m := Builtin.Tuple.tupleExact _) (wpAny_newObj_type (wpAny_bind (wpAny_pure (wpAny_pure ⟨_, rfl, wpAny_pure h⟩))) hok)
    | exact wpAny_bind (wpAny_bind (m := Builtin.Tuple.tupleExact _) (wpAny_newObj_type (wpAny_pure (wpAny_pure ⟨_, rfl, wpAny_pure h⟩)) hok))
    | exact wpAny_bind (wpAny_bind (m := Builtin.Tuple.tupleExact _) (wpAny_newObj_type (wpAny_pure ⟨_, rfl, wpAny_pure h⟩) hok))
end
section
variable {X : Cx} {cl : Nat → Addr} {W : WX} {e : Expr} {te : TE} {f h : Dv → Res D} {k : Nat} {p1 p2 p3 pos apos : Pos}
/-- the items of a tuple or list from the last to the first, as a new one -/
def tRevA (K : Fg) (te : TE) : TE := fun σ H Q => te σ H fun x H1 => ∃ a xs, x = .ref a ∧ ((SqT K H1 a xs ∧ ∀ p, H1 p = none → Q (.ref p) (upd H1 p (.tup xs.reverse))) ∨ (SqL K H1 a xs ∧ ∀ p, H1 p = none → Q (.ref p) (upd H1 p (.lst xs.reverse))))
theorem vals_reverse {xs : List V} {us : List Value} (r : Vals xs us) : Vals xs.reverse us.reverse := by
  induction r with
  | nil => exact .nil
  | cons h t ih =>
    rw [List.reverse_cons, List.reverse_cons]
    exact ih.append (.cons h .nil)
theorem pe_revA (he : PE X e te) : PE X (.Subscript e (.Slice none none (some (.UnaryOp .USub (.Constant (.int 1) k p1) p2)) p3) pos) (tRevA X.K te) := by
  refine ⟨fun pins s σ H Q I h => ?_⟩
  refine PyProof.Rows.Subscript_ (thn (he.run pins s σ H _ I h) fun v s1 ⟨x, H1, I1, r1, q1⟩ => ?_)
  obtain ⟨a, xs, ex, q⟩ := q1
  subst ex
  cases r1
  have hst : PO X (some (.UnaryOp .USub (.Constant (.int 1) k p1) p2)) (tPart (tUn (rU fun i => .int (-i)) (tC (.int 1)))) := po_some (pe_un un_neg pe_int)
  refine wpAny_Slice (thn (po_none.run pins s1 σ H1 (fun o H2 => o = none ∧ H2 = H1) I1 ⟨rfl, rfl⟩) fun vl s2 ⟨lo, H2, I2, pl, el, e2⟩ => ?_)
  subst el e2
  refine thn (po_none.run pins s2 σ H2 (fun o' H3 => o' = none ∧ H3 = H2) I2 ⟨rfl, rfl⟩) fun vu s3 ⟨u, H3, I3, pu, eu, e3⟩ => ?_
  subst eu e3
  refine thn (hst.run pins s3 σ H3 (fun o H4 => o = some (-1) ∧ H4 = H3) I3 ⟨1, rfl, -1, rfl, rfl, rfl⟩) fun vs s4 ⟨o2, H4, I4, ps, eo, e4⟩ => ?_
  subst eo e4
  have I5 : L2.Inv X pins σ H4 { s4 with heap := s4.heap.push { cls := .type "slice", data := .fields #[vl, vu, vs] } } := I4.kept (t' := s4.toks) fun b ob q => Heap.get?_push_of_some _ q
  have hf := I5.hok.fresh (Nat.le_refl _)
  show wpAny (model X.prog X.w) X.A (PyProof.Rows.subscriptTail e (.Slice none none (some (.UnaryOp .USub (.Constant (.int 1) k p1) p2)) p3) (.ref a) (.ref s4.heap.objs.size)) (EP X pins σ Q) X.xe { s4 with heap := s4.heap.push { cls := .type "slice", data := .fields #[vl, vu, vs] } }
  have el : vl = .none := by cases pl; rfl
  have eu : vu = .none := by cases pu; rfl
  subst el eu
  have hsl := Heap.IsSliceOf.new s4.heap .none .none vs
  rcases q with ⟨hq, q⟩ | ⟨hq, q⟩
  · obtain ⟨its, rv, ht, hz⟩ := I5.tuple hq
    refine PyProof.Rows.tail_any (ops := [.ref a, .ref s4.heap.objs.size]) ht.typeIs F.slot_tuple_getitem.lookup ?_ (by with_unfolding_all rfl)
    refine get_tuple_rev ht hsl ps ?_ (by rw [List.size_toArray, ← rv.length]; exact hz)
    refine ⟨.ref _, _, I5.laid (o := .tup xs.reverse) (t' := s4.toks) (fun b ob e => Heap.get?_push_of_some _ e) (Nat.le_refl _) ?_, rfl, q _ hf⟩
    exact ⟨by rw [List.length_reverse]; exact hz, _, vals_reverse rv, ⟨_, Heap.get?_push_size _ rfl, rfl, 0, rfl⟩⟩
  · obtain ⟨its, rv, hl, hz⟩ := I5.list hq
    refine PyProof.Rows.tail_any (ops := [.ref a, .ref s4.heap.objs.size]) hl.isList.typeIs F.slot_list_getitem.lookup ?_ (by with_unfolding_all rfl)
    refine wpAny_getItem_list_slice hl.isList hsl .none .none ps (by decide) ?_ (by rw [List.size_toArray, ← rv.length]; exact hz)
    rw [PySem.W.krv_pick]
    refine ⟨.ref _, _, I5.laid (o := .lst xs.reverse) (t' := s4.toks) (fun b ob e => Heap.get?_push_of_some _ e) (Nat.le_refl _) ?_, rfl, q _ hf⟩
    exact ⟨by rw [List.length_reverse]; exact hz, _, 0, vals_reverse rv, Heap.get?_push_size _ rfl⟩
def oRevA (d : D) : Res D := match d with
  | .tuple l => .ok (.tuple l.reverse)
  | .list l => .ok (.list l.reverse)
  | _ => .stuck
@[simp] theorem oRevA_t (l : List D) : oRevA (.tuple l) = .ok (.tuple l.reverse) := rfl
@[simp] theorem oRevA_l (l : List D) : oRevA (.list l) = .ok (.list l.reverse) := rfl
theorem q_revA (he : QE X cl W e te f) : QF X cl W (.Subscript e (.Slice none none (some (.UnaryOp .USub (.Constant (.int 1) k p1) p2)) p3) pos) (tRevA X.K te) (fun δ => (f δ).bind oRevA) := by
  refine ⟨pe_revA he.pe, fun δ σ H Q en po => ?_⟩
  show te σ H _
  refine he.sim.chain (P := fun H r => PostF X.K cl W σ H r Q) en po (fun c h => h) (fun H h => h) fun d v H1 _ s1 r1 p1 => ?_
  have p2 := p1.weak s1
  cases d with
  | tuple l =>
    obtain ⟨a, xs, rfl, ha, hx⟩ := rp_tupH r1
    refine ⟨a, xs, rfl, .inl ⟨tq ha, fun p hp => ?_⟩⟩
    have s := same_new (o := .tup xs.reverse) hp
    exact p2 _ _ s (rpt upd_same (RpAll.mono s _ _ hx.reverse)) (fresh_no rfl)
  | list l =>
    obtain ⟨a, xs, rfl, ha, hx⟩ := rp_list r1
    refine ⟨a, xs, rfl, .inr ⟨Or.inl (Or.inl ha), fun p hp => ?_⟩⟩
    have s := same_new (o := .lst xs.reverse) hp
    exact p2 _ _ s (rpl upd_same (RpAll.mono s _ _ hx.reverse)) (fresh_of hp)
  | _ => exact p2.elim
/-! ### z.join(..) -/
variable {o a : Expr} {to ta : TE}
def mJoin (l : List Nat) (d : D) : Res D := match d with
  | .list m => match strsOf m with
    | some ys => Res.need ((ys.map List.length).sum + ys.length * l.length ≤ 1000000) (.ok (.str (TL.joinL l ys)))
    | none => .stuck
  | .tuple m => match strsOf m with
    | some ys => Res.need ((ys.map List.length).sum + ys.length * l.length ≤ 1000000) (.ok (.str (TL.joinL l ys)))
    | none => .stuck
  | _ => .stuck
theorem mJoin_l (l : List Nat) (ys : List (List Nat)) : mJoin l (.list (ys.map D.str)) = Res.need ((ys.map List.length).sum + ys.length * l.length ≤ 1000000) (.ok (.str (TL.joinL l ys))) := by
  simp [mJoin, strsOf_map]
theorem mJoin_t (l : List Nat) (ys : List (List Nat)) : mJoin l (.tuple (ys.map D.str)) = Res.need ((ys.map List.length).sum + ys.length * l.length ≤ 1000000) (.ok (.str (TL.joinL l ys))) := by
  simp [mJoin, strsOf_map]
theorem mJoin_ne (l : List Nat) (d : D) : noExc (mJoin l d) := by
  unfold mJoin
  split
  · split
    · exact need_noExc ok_noExc
    · exact stuck_noExc
  · split
    · exact need_noExc ok_noExc
    · exact stuck_noExc
  · exact stuck_noExc
theorem strs_rpL {K : Fg} {H : Hp} : ∀ {ys : List (List Nat)} {xs : List V}, RpAll K H (ys.map D.str) xs → xs = (ys.map S).map V.str
  | [], _, r => by unfold RpAll at r; exact r
  | y :: ys, _, r => by
    rw [List.map_cons] at r
    unfold RpAll at r
    obtain ⟨v, t, rfl, r1, r2⟩ := r
    rw [strs_rpL r2, rp_str r1]
    rfl
def rJoin (K : Fg) : V → List V → Hp → VK → Prop := fun x xs H Q => ∃ a p, ∃ ys : List Str, x = .str a ∧ xs = [.ref p] ∧ (SqL K H p (ys.map V.str) ∨ SqT K H p (ys.map V.str)) ∧
      (ys.map (·.length)).sum + ys.length * a.length ≤ 16777216 ∧ Q (.str (Txt.join a ys)) H
theorem join_size {ys : List (List Nat)} {l : List Nat} (h : (ys.map List.length).sum + ys.length * l.length ≤ 1000000) : ((ys.map S).map (·.length)).sum + (ys.map S).length * (S l).length ≤ 16777216 := by
  have e : (ys.map S).map (·.length) = ys.map List.length := by
    rw [List.map_map]
    exact List.map_congr_left fun y _ => S_len y
  rw [e, List.length_map, S_len]
  omega
theorem sim_join {K : Fg} : SimM K cl (rJoin K) mJoin := by
  intro y l b σ H Q rb po
  unfold mJoin at po
  split at po
  · split at po
    · rename_i m ys hm
      cases strsOf_some hm
      obtain ⟨hc, po⟩ := need_on po
      obtain ⟨p, xs, rfl, ha, hx⟩ := rp_list rb
      rw [strs_rpL hx] at ha
      refine ⟨_, p, ys.map S, rfl, rfl, .inl (Or.inl (Or.inl ha)), join_size hc, ?_⟩
      rw [show Txt.join (S l) (ys.map S) = S (TL.joinL l ys) from SX.join_S l ys]
      exact po _ H (Same.refl H) (rps _) (fresh_no rfl)
    · exact po.elim
  · split at po
    · rename_i m ys hm
      cases strsOf_some hm
      obtain ⟨hc, po⟩ := need_on po
      obtain ⟨p, xs, rfl, ha, hx⟩ := rp_tup rb
      rw [strs_rpL hx] at ha
      refine ⟨_, p, ys.map S, rfl, rfl, .inr ha, join_size hc, ?_⟩
      rw [show Txt.join (S l) (ys.map S) = S (TL.joinL l ys) from SX.join_S l ys]
      exact po _ H (Same.refl H) (rps _) (fresh_no rfl)
    · exact po.elim
  · exact po.elim
theorem q_join (ho : QE X cl W o to f) (ha : QE X cl W a ta h) (hs : starEach [a] X.env = [(false, eval a X.env)] := by rfl) (hbase : attributeBase o "join" X.env (eval o X.env) = eval o X.env := by rfl) (hline : (apos.endLine == pos.line) = true := by rfl) :
    QF X cl W (.Call (.Attribute o "join" apos) [a] [] pos) (tM1 (rJoin X.K) to ta) (dM mJoin f h) :=
  ⟨pe_join ho.pe ha.pe hs hbase hline, tM1_sim ho.sim ha.sim sim_join mJoin_ne⟩
end
end DL
namespace DL
open PySem L2
section
variable {X : Cx} {cl : Nat → Addr} {W : WX} {e tg a b c : Expr} {te ta tb tc : TE} {g : TG} {k : D → Env → Option Env} {f h l : Dv → Res D} {pos px py pz pt pt2 : Pos} {kt k2 : Nat} {K : Fg}
/-! ### names = e -/
def gUnp (f : Dv → Res D) (k : D → Env → Option Env) : DS := fun d ε => (f (view ε)).on (fun x => imm x = true ∧ ∃ ε2, k x ε = some ε2 ∧ d.nx ε2) (fun c => d.ex c ε)
theorem s_unp (he : QF X cl W e te f) (hg : QG X tg g k) (hs : swapsWithSole [tg] e pos.line X.env = pure false := by rfl) (hw : swappedStores [tg] e X.env = pure none := by rfl)
    (h1 : (assignEach [tg] X.env).map (·.2) = [assign tg X.env] := by rfl) : QS X cl W (.Assign [tg] e pos) (tAsg te g) (gUnp f k) := by
  refine ⟨ps_asg he.pe hg.pg hs hw h1, fun H0 d D' ε σ H en q hh => ?_⟩
  show te σ H _
  refine he.sim.runS en q hh fun x v H1 _ s1 r1 f1 hk => ?_
  obtain ⟨im, ε2, e2, nx⟩ := hk
  exact hg.sim H0 H H1 ε ε2 σ x v _ q s1 r1 im e2 fun σ' q' => en.nx _ _ _ q' nx
def xUnp (f : Dv → Res D) (k : D → Env → Option Env) : XS := fun ε => (f (view ε)).thn ε fun x => Out.need (imm x = true) (match k x ε with
  | some ε2 => .nx ε2
  | none => .stuck)
theorem snd_unp : Snd (gUnp f k) (xUnp f k) := fun d ε hh => Res.on_mono (Res.thn_to hh) fun x z => by
  obtain ⟨h1, z⟩ := Out.need_to z
  split at z
  · rename_i ε2 e2
    exact ⟨h1, ε2, e2, z⟩
  · exact z.elim
@[simp] theorem xUnp_at (ε : Env) : xUnp f k ε = (f (view ε)).thn ε fun x => Out.need (imm x = true) (match k x ε with
  | some ε2 => .nx ε2
  | none => .stuck) := rfl
/-! ### x, y, z = a, b, c -/
def gPar3 (i j m : Nat) (p q r : Bool) (f h l : Dv → Res D) : DS := fun d ε => (f (view ε)).on (fun x => (h (view ε)).on (fun y => (l (view ε)).on (fun z => (i < ε.length ∧ j < ε.length ∧ m < ε.length ∧ okM p x ∧ okM q y ∧ okM r z) ∧ d.nx (((ε.set i (mk p x)).set j (mk q y)).set m (mk r z))) (fun c => d.ex c ε)) (fun c => d.ex c ε)) (fun c => d.ex c ε)
theorem s_par3 {i j l' : Nat} (m n o : Bool) {x y z : Str} (ha : QF X cl W a ta f) (hb : QF X cl W b tb h) (hc' : QF X cl W c tc l) (hc : X.calm = true) (hN : X.N.Nodup) (hi : X.N[i]? = some x) (hj : X.N[j]? = some y) (hl : X.N[l']? = some z) (hij : i ≠ j) (hil : i ≠ l') (hjl : j ≠ l')
    (hx : X.env.scope.names.lookup x = some .local) (hy : X.env.scope.names.lookup y = some .local) (hz : X.env.scope.names.lookup z = some .local) (hw : swappedStores [.Tuple [.Name x px, .Name y py, .Name z pz] kt pt] (.Tuple [a, b, c] k2 pt2) X.env = pure (some [x, y, z]))
    (hs : swapsWithSole [.Tuple [.Name x px, .Name y py, .Name z pz] kt pt] (.Tuple [a, b, c] k2 pt2) pos.line X.env = pure false := by rfl) (st1 : starEach [a, b, c] X.env = (false, eval a X.env) :: starEach [b, c] X.env := by rfl) (st2 : starEach [b, c] X.env = (false, eval b X.env) :: starEach [c] X.env := by rfl) (st3 : starEach [c] X.env = (false, eval c X.env) :: starEach [] X.env := by rfl) :
    QS X cl W (.Assign [.Tuple [.Name x px, .Name y py, .Name z pz] kt pt] (.Tuple [a, b, c] k2 pt2) pos) (tPar3 i j l' (tCons ta (tCons tb (tCons tc tNil)))) (gPar3 i j l' m n o f h l) := by
  refine ⟨ps_par3 hc hN hi hj hl hij hil hjl hx hy hz (pa_cons ha.pe (pa_cons hb.pe (pa_cons hc'.pe pa_nil st3) st2) st1) hw hs, fun H0 d D' ε σ H en q hh => ?_⟩
  show ta σ H _
  refine ha.sim.runS en q hh fun u v H1 _ s1 r1 f1 h1 => ?_
  show tb σ H1 _
  refine hb.sim.runS en (q.mono s1) h1 fun u2 w H2 _ s2 r2 f2 h2 => ?_
  show tc σ H2 _
  refine hc'.sim.runS en ((q.mono s1).mono s2) h2 fun u3 w3 H3 _ s3 r3 f3 h3 => ?_
  obtain ⟨⟨l1, l2, l3, o1, o2, o3⟩, nx⟩ := h3
  refine ⟨v, w, w3, rfl, en.nx _ _ _ (SQ.putM (SQ.putM (SQ.putM q l1 o1 s1 r1 f1) (by rw [List.length_set]; exact l2) o2 s2 r2 f2) (by rw [List.length_set, List.length_set]; exact l3) o3 s3 r3 f3) nx⟩
def xPar3 (i j m : Nat) (p q r : Bool) (f h l : Dv → Res D) : XS := fun ε => (f (view ε)).thn ε fun x => (h (view ε)).thn ε fun y => (l (view ε)).thn ε fun z => Out.need (i < ε.length ∧ j < ε.length ∧ m < ε.length ∧ okM p x ∧ okM q y ∧ okM r z) (.nx (((ε.set i (mk p x)).set j (mk q y)).set m (mk r z)))
theorem snd_par3 {i j m : Nat} {p q r : Bool} : Snd (gPar3 i j m p q r f h l) (xPar3 i j m p q r f h l) := fun d ε hh => Res.on_mono (Res.thn_to hh) fun v z => Res.on_mono (Res.thn_to z) fun u z => Res.on_mono (Res.thn_to z) fun w z => by
  obtain ⟨h1, h2⟩ := Out.need_to z
  exact ⟨h1, h2⟩
@[simp] theorem xPar3_at (i j m : Nat) (p q r : Bool) (ε : Env) : xPar3 i j m p q r f h l ε = (f (view ε)).thn ε fun x => (h (view ε)).thn ε fun y => (l (view ε)).thn ε fun z => Out.need (i < ε.length ∧ j < ε.length ∧ m < ε.length ∧ okM p x ∧ okM q y ∧ okM r z) (.nx (((ε.set i (mk p x)).set j (mk q y)).set m (mk r z))) := rfl
/-! ### x = y, y read only from now on -/
def gMv (i j : Nat) : DS := fun d ε => ∃ x, ε[j]? = some (some (.fz x)) ∧ i < ε.length ∧ d.nx (ε.set i (some (.fz x)))
theorem SQ.both {H0 H : Hp} {ε : Env} {σ : L2.St} {i j : Nat} {x : D} (q : SQ K H0 ε σ H) (hj : ε[j]? = some (some (.fz x))) (hi : i < ε.length) {v : V} (hv : σ[j]? = some (some v)) : SQ K H0 (ε.set i (some (.fz x))) (σ.set i (some v)) H := by
  obtain ⟨⟨M, t1, b, f0, o, n⟩, len⟩ := q
  refine ⟨⟨M, t1, b, fun m d e => ?_, fun m d e => ?_, fun m p d e hmp h1 h2 => ?_⟩, by rw [List.length_set, List.length_set, len]⟩
  · rcases set_get e with ⟨rfl, _, z⟩ | ⟨z1, z2⟩
    · cases z
      obtain ⟨u, u1, u2⟩ := f0 j x hj
      rw [u1] at hv
      cases hv
      exact ⟨_, by rw [List.getElem?_set_self (by omega)], u2⟩
    · obtain ⟨u, u1, u2⟩ := f0 m d z2
      exact ⟨u, by rw [set_out z1]; exact u1, u2⟩
  · rcases set_get e with ⟨_, _, z⟩ | ⟨z1, z2⟩
    · cases z
    · obtain ⟨u, u1, u2⟩ := o m d z2
      exact ⟨u, by rw [set_out z1]; exact u1, u2⟩
  · rcases set_get h1 with ⟨_, _, z⟩ | ⟨z1, z2⟩
    · cases z
    · rcases set_get h2 with ⟨_, _, z⟩ | ⟨y1, y2⟩
      · cases z
      · rw [set_out z1, set_out y1]
        exact n m p d e hmp z2 y2
theorem s_mv {i j : Nat} {x : Str} {e : Expr} {pos' : Pos} (he : PE X e (tVar j)) (hN : X.N.Nodup) (hi : X.N[i]? = some x) (hx : Loc X.env.scope x) (hs : swapsWith e (some (.Name x pos')) pos.line X.env = pure false := by rfl) (hf : X.fn x = true ∨ X.env.scope.names.lookup x = some .local := by first | exact .inl rfl | exact .inr rfl | assumption) :
    QS X cl W (.Assign [.Name x pos'] e pos) (tAsg (tVar j) (gName i)) (gMv i j) := by
  refine ⟨ps_set hN hi hx he hs hf, fun H0 d D' ε σ H en q hh => ?_⟩
  obtain ⟨y, hy, hl, nx⟩ := hh
  obtain ⟨v, hv⟩ : ∃ v, σ[j]? = some (some v) := by
    obtain ⟨⟨M, t1, b, f0, o, n⟩, len⟩ := id q
    obtain ⟨v, h1, _⟩ := f0 j y hy
    exact ⟨v, h1⟩
  exact ⟨v, hv, en.nx _ _ _ (q.both hy hl hv) nx⟩
end
end DL
namespace DL
open PySem L2
def xMv (i j : Nat) : XS := fun ε => Out.opt (fzAt ε j) fun x => Out.need (i < ε.length) (.nx (ε.set i (some (.fz x))))
theorem snd_mv {i j : Nat} : Snd (gMv i j) (xMv i j) := fun d ε hh => by
  unfold xMv at hh
  cases e : fzAt ε j with
  | none => rw [e] at hh; exact hh.elim
  | some x =>
    rw [e] at hh
    obtain ⟨h1, h2⟩ := Out.need_to hh
    exact ⟨x, fzAt_some e, h1, h2⟩
@[simp] theorem xMv_at (i j : Nat) (ε : Env) : xMv i j ε = Out.opt (fzAt ε j) fun x => Out.need (i < ε.length) (.nx (ε.set i (some (.fz x)))) := rfl
end DL
namespace DL
open PySem L2
/-! ### min, max of a list -/
def dLt (a b : D) : Bool := PySem.W.dataLt (toPy a) (toPy b)
def minF (d : D) (ds : List D) : D := ds.foldl (fun a y => if dLt y a = true then y else a) d
def maxF (d : D) (ds : List D) : D := ds.foldl (fun a y => if dLt a y = true then y else a) d
def noNone (ds : List D) : Bool := ds.all fun d => match d with
  | .none => false
  | _ => true
section
variable {X : Cx} {pins : List (Addr × Obj)} {σ : L2.St} {H : Hp} {s : Shared}
theorem reads_all (I : L2.Inv X pins σ H s) {n : Nat} : ∀ {ds : List D} {xs : List V} {us : List Value}, shpAll n ds = true → RpAll X.K H ds xs → Vals xs us → ∃ as, ReadsAll s.heap us (ds.map toPy) as
  | [], _, _, _, r, v => by
    unfold RpAll at r
    subst r
    cases v
    exact ⟨[], .nil⟩
  | d :: ds, _, _, sh, r, v => by
    unfold RpAll at r
    obtain ⟨x, t, rfl, r1, r2⟩ := r
    unfold shpAll at sh
    rw [Bool.and_eq_true] at sh
    cases v with
    | cons v1 v2 =>
      obtain ⟨as, h1⟩ := reads_all I sh.2 r2 v2
      obtain ⟨bs, h2⟩ := Dp.reads I (toPy d) x _ (Rp.dp n d x sh.1 r1) v1
      exact ⟨bs ++ as, .cons h2 h1⟩
theorem toPy_none {d : D} (h : toPy d = .none) : d = .none := by
  cases d with
  | none => rfl
  | _ => unfold toPy at h; cases h
theorem alike_all {ds : List D} (h : alk ds = true) (hn : noNone ds = true) : PySem.W.AlikeAll (ds.map toPy) := by
  refine ⟨fun a ha b hb => alk_ok h a ha b hb, fun a ha z => ?_⟩
  obtain ⟨d, hd, rfl⟩ := List.mem_map.mp ha
  have := List.all_eq_true.mp hn d hd
  rw [toPy_none z] at this
  cases this
theorem getD_py (ds : List D) (i : Nat) : (ds.map toPy).getD i .none = toPy (ds.getD i .none) := by
  rw [List.getD_eq_getElem?_getD, List.getD_eq_getElem?_getD, List.getElem?_map]
  cases ds[i]? with
  | none => rw [Option.map_none]; unfold toPy; rfl
  | some d => rfl
theorem vals_at : ∀ {xs : List V} {us : List Value} {i : Nat} {u : Value}, Vals xs us → us[i]? = some u → ∃ x, xs[i]? = some x ∧ RelV x u
  | [], _, i, u, .nil, h => by cases h
  | x :: xs, _, 0, u, .cons h t, e => by cases e; exact ⟨_, rfl, h⟩
  | x :: xs, _ :: us, i + 1, u, .cons h t, e => vals_at (xs := xs) (us := us) (i := i) t e
/-- what min or max picks -/
theorem pick_at (I : L2.Inv X pins σ H s) {f : D → D → Bool} {d : D} {ds : List D} {xs : List V} {its : List Value} (hr : RpAll X.K H (d :: ds) xs) (rv : Vals xs its) {v : Value} {bt : Nat → Nat → Bool} (hbt : bt = fun i j => f ((d :: ds).getD i .none) ((d :: ds).getD j .none))
    (hP : its.toArray[PySem.argBest bt (its.toArray.size - 1)]? = some v) : ∃ x, RelV x v ∧ Rp X.K H (ds.foldl (fun a y => if f y a = true then y else a) d) x := by
  have hl : its.length = ds.length + 1 := by rw [← rv.length, hr.length, List.length_cons]
  have e1 : its.toArray.size - 1 = ds.length := by rw [List.size_toArray]; omega
  have e2 := (PySem.W.argBest_fold f D.none d ds ds.length (Nat.le_refl _))
  rw [List.take_length] at e2
  rw [e1, hbt] at hP
  have hP2 : its[PySem.argBest (fun i j => f ((d :: ds).getD i .none) ((d :: ds).getD j .none)) ds.length]? = some v := by simpa using hP
  obtain ⟨x, hx, rx⟩ := vals_at rv hP2
  obtain ⟨y, hy, ry⟩ := hr.get hx
  refine ⟨x, rx, ?_⟩
  have e3 := e2.2
  rw [List.getD_eq_getElem?_getD, hy] at e3
  have e4 : y = ds.foldl (fun a y => if f y a = true then y else a) d := e3
  rw [← e4]
  exact ry
theorem depth_all {ds : List D} (h : shpAll 9 ds = true) : PyData.depthAll (ds.map toPy) ≤ 9 := by
  have := (shp_layAll 9 ds h).2
  rw [toPyAll_map] at this
  exact this
end
section
variable {X : Cx} {cl : Nat → Addr} {W : WX}
def okMin (ds : List D) : Prop := shpAll 9 ds = true ∧ alk ds = true ∧ noNone ds = true ∧ immAll ds = true
instance (ds : List D) : Decidable (okMin ds) := by unfold okMin; infer_instance
def rMin1 (K : Fg) (f : D → D → Bool) : List V → Hp → VK → Prop := fun vs H Q => ∃ a d ds xs, vs = [.ref a] ∧ SqL K H a xs ∧ RpAll K H (d :: ds) xs ∧ shpAll 9 (d :: ds) = true ∧ alk (d :: ds) = true ∧ noNone (d :: ds) = true ∧ ∀ x, Rp K H (ds.foldl (fun a y => if f y a = true then y else a) d) x → Q x H
theorem cr_min1 (hc : X.calm = true) (hu : X.A.units + 64 < cLine) : CallR X (.builtin "min") (rMin1 X.K dLt) := by
  intro pins s σ H vs us Q I r h
  obtain ⟨a, d, ds, xs, rfl, hs, hr, hsh, hal, hnn, q⟩ := h
  cases r with
  | cons rx rn =>
    cases rn
    cases rx
    obtain ⟨its, rv, hl, hz⟩ := I.list hs
    obtain ⟨as, ra⟩ := reads_all I hsh hr rv
    have hil := hl.isList
    refine PySem.call_min_walkH (PySem.W.iter_listW (A := X.A.in1) (I.ok.hd hc) hil fun s2 e Wk st hfp hw hk => ?_)
    have dp := depth_all hsh
    refine ⟨_, _, _, _, _, _, _, s.heap, (fun i j => dLt ((d :: ds).getD i .none) ((d :: ds).getD j .none)), rfl, Wk, st, hfp, by rw [List.size_toArray, ← rv.length, hr.length]; simp, hw, hk, ?_, fun v s' hP m => ?_⟩
    · have c := PySem.W.cmpIn_lt (prog := X.prog) (w := X.w) (A := X.A.in1) (vs := its.toArray) (xs := (d :: ds).map toPy) (as := as) (by rw [List.toList_toArray]; exact ra) (alike_all hal hnn) (by show X.A.units + 1 + _ < _; omega)
      have eb : (fun i j => PySem.W.dataLt (((d :: ds).map toPy).getD i .none) (((d :: ds).map toPy).getD j .none)) = fun i j => dLt ((d :: ds).getD i .none) ((d :: ds).getD j .none) := by
        funext i j
        rw [getD_py, getD_py]
        rfl
      rw [eb] at c
      exact c
    · obtain ⟨h', tk, rfl, hk'⟩ := PySem.W.moved_old e rfl m
      obtain ⟨x, rx, rp⟩ := pick_at I (f := dLt) hr rv rfl hP
      exact ⟨x, H, I.kept hk', rx, q x rp⟩
theorem cr_max1 (hc : X.calm = true) (hu : X.A.units + 64 < cLine) : CallR X (.builtin "max") (rMin1 X.K fun a b => dLt b a) := by
  intro pins s σ H vs us Q I r h
  obtain ⟨a, d, ds, xs, rfl, hs, hr, hsh, hal, hnn, q⟩ := h
  cases r with
  | cons rx rn =>
    cases rn
    cases rx
    obtain ⟨its, rv, hl, hz⟩ := I.list hs
    obtain ⟨as, ra⟩ := reads_all I hsh hr rv
    have hil := hl.isList
    refine PySem.call_max_walkH (PySem.W.iter_listW (A := X.A.in1) (I.ok.hd hc) hil fun s2 e Wk st hfp hw hk => ?_)
    have dp := depth_all hsh
    refine ⟨_, _, _, _, _, _, _, s.heap, (fun i j => dLt ((d :: ds).getD j .none) ((d :: ds).getD i .none)), rfl, Wk, st, hfp, by rw [List.size_toArray, ← rv.length, hr.length]; simp, hw, hk, ?_, fun v s' hP m => ?_⟩
    · have c := PySem.W.cmpIn_gt (prog := X.prog) (w := X.w) (A := X.A.in1) (vs := its.toArray) (xs := (d :: ds).map toPy) (as := as) (by rw [List.toList_toArray]; exact ra) (alike_all hal hnn) (by show X.A.units + 1 + _ < _; omega)
      have eb : (fun i j => PySem.W.dataLt (((d :: ds).map toPy).getD j .none) (((d :: ds).map toPy).getD i .none)) = fun i j => dLt ((d :: ds).getD j .none) ((d :: ds).getD i .none) := by
        funext i j
        rw [getD_py, getD_py]
        rfl
      rw [eb] at c
      exact c
    · obtain ⟨h', tk, rfl, hk'⟩ := PySem.W.moved_old e rfl m
      obtain ⟨x, rx, rp⟩ := pick_at I (f := fun a b => dLt b a) hr rv rfl hP
      exact ⟨x, H, I.kept hk', rx, q x rp⟩
def cMin1 : List D → Res D
  | [.list (d :: ds)] => Res.need (okMin (d :: ds)) (.ok (minF d ds))
  | _ => .stuck
def cMax1 : List D → Res D
  | [.list (d :: ds)] => Res.need (okMin (d :: ds)) (.ok (maxF d ds))
  | _ => .stuck
theorem fold_imm (f : D → D → Bool) : ∀ (ds : List D) (d : D), imm d = true → immAll ds = true → imm (ds.foldl (fun a y => if f y a = true then y else a) d) = true
  | [], d, h, _ => h
  | e :: ds, d, h, h2 => by
    rw [immAll_cons, Bool.and_eq_true] at h2
    rw [List.foldl_cons]
    refine fold_imm f ds _ ?_ h2.2
    split
    · exact h2.1
    · exact h
theorem cMin1_ne : noExcC cMin1 := fun ds => by
  unfold cMin1
  split
  · exact need_noExc ok_noExc
  · exact stuck_noExc
theorem cMax1_ne : noExcC cMax1 := fun ds => by
  unfold cMax1
  split
  · exact need_noExc ok_noExc
  · exact stuck_noExc
variable {K : Fg}
theorem sim_min1 : SimC K cl (rMin1 K dLt) cMin1 := by
  intro vs ds σ H Q r po
  unfold cMin1 at po
  split at po
  · rename_i d ds
    obtain ⟨v, rfl, h1⟩ := r.one
    obtain ⟨⟨c1, c2, c3, c4⟩, po⟩ := need_on po
    obtain ⟨a, xs, rfl, ha, hx⟩ := rp_list h1
    rw [immAll_cons, Bool.and_eq_true] at c4
    exact ⟨a, d, ds, xs, rfl, .inl (.inl ha), hx, c1, c2, c3, fun x rx => po x H (Same.refl H) rx (fresh_no (imm_box (fold_imm dLt ds d c4.1 c4.2)))⟩
  · exact po.elim
theorem sim_max1 : SimC K cl (rMin1 K fun a b => dLt b a) cMax1 := by
  intro vs ds σ H Q r po
  unfold cMax1 at po
  split at po
  · rename_i d ds
    obtain ⟨v, rfl, h1⟩ := r.one
    obtain ⟨⟨c1, c2, c3, c4⟩, po⟩ := need_on po
    obtain ⟨a, xs, rfl, ha, hx⟩ := rp_list h1
    rw [immAll_cons, Bool.and_eq_true] at c4
    exact ⟨a, d, ds, xs, rfl, .inl (.inl ha), hx, c1, c2, c3, fun x rx => po x H (Same.refl H) rx (fresh_no (imm_box (fold_imm (fun a b => dLt b a) ds d c4.1 c4.2)))⟩
  · exact po.elim
variable {e : Expr} {es : List Expr} {pos p : Pos} {tr : TA} {gs : Dv → Res (List D)}
theorem q_min1 (hc : X.calm = true) (hu : X.A.units + 64 < cLine) (hm : X.mg "min" = none) (ha : QA X cl W (e :: es) tr gs) (hg : Gl X "min" := by rfl) (he : starEach (e :: es) X.env = (false, eval e X.env) :: starEach es X.env := by rfl) (hpl : (backTo pos (starEach es X.env)).any (·.1) = false := by rfl) :
    QF X cl W (.Call (.Name "min" p) (e :: es) [] pos) (tCB (rMin1 X.K dLt) tr) (fun δ => (gs δ).bind cMin1) := q_callB (cr_min1 hc hu) sim_min1 cMin1_ne hg hm (by decide +kernel) ha (by decide) (by decide) he hpl
theorem q_max1 (hc : X.calm = true) (hu : X.A.units + 64 < cLine) (hm : X.mg "max" = none) (ha : QA X cl W (e :: es) tr gs) (hg : Gl X "max" := by rfl) (he : starEach (e :: es) X.env = (false, eval e X.env) :: starEach es X.env := by rfl) (hpl : (backTo pos (starEach es X.env)).any (·.1) = false := by rfl) :
    QF X cl W (.Call (.Name "max" p) (e :: es) [] pos) (tCB (rMin1 X.K fun a b => dLt b a) tr) (fun δ => (gs δ).bind cMax1) := q_callB (cr_max1 hc hu) sim_max1 cMax1_ne hg hm (by decide +kernel) ha (by decide) (by decide) he hpl
end
end DL
namespace DL
open PySem L2
/-! ### an exception in hand: isinstance, the word for it -/
/-- what is known of the class numbered c -/
structure ExcF (K : Fg) (cl : Nat → Addr) (c : Nat) : Prop where
  ex : ExcC K (cl c)
  own : ∀ j, j < 5 → PySem.W.kitOne K (.ref (cl c)) (.ref (cl j)) = some (decide (c = j))
  val : PySem.W.kitOne K (.ref (cl c)) (.type "ValueError") = some true
section
variable {X : Cx} {cl : Nat → Addr} {W : WX}
theorem call_isW {a D : Addr} {oe : Obj} (hp : (a, oe) ∈ X.pn) (C : ExcC X.K D) (hz : Zc (.ref D) none oe) (hf : ∃ vs, oe.data = .fields vs) : CallR X (.builtin "isinstance") (rIsE X.K D a) := by
  intro pins s σ H xs us Q I r h
  obtain ⟨c, cv, b, rfl, hcv, e, q⟩ := h
  cases r with
  | cons rx rr =>
    cases rr with
    | cons rt rr =>
      cases rr
      cases rx
      cases hcv _ rt
      obtain ⟨hget, _⟩ := I.pin (a, oe) (List.mem_append_left _ hp)
      obtain ⟨vs, hv⟩ := hf
      have J : PySem.W.InstAt s.heap a oe D none := by
        obtain ⟨oc, od, oda, osl⟩ := oe
        obtain ⟨z1, z2⟩ := hz
        dsimp only at z1 z2 hv
        subst z1 z2 hv
        exact ⟨hget, rfl, rfl, trivial⟩
      exact PySem.W.kia_one (PySem.W.handS_kitx_exc C.hg C.hk C.hs C.hd C.ha C.hn C.ht C.hm) I.kIn J e (fun z => nomatch z) fun tk => ⟨.bl b, H, I.kept (t' := tk) fun _ _ z => z, rfl, q⟩
variable {e : Expr} {te : TE} {f : Dv → Res D} {pos p pc : Pos} {x : Str}
def dIsW (a : Addr) (b : Bool) (f : Dv → Res D) : Dv → Res D := fun δ => (f δ).bind fun d => match d with
  | .adr i => Res.need (i = a) (.ok (.bool b))
  | _ => .stuck
theorem isW_sim {K : Fg} {a D : Addr} {b : Bool} {v : V} {cv : Value} (he : SimE K cl W te f) (hv : ∀ u, RelV v u → u = cv) (hk : PySem.W.kitOne K (.ref D) cv = some b) : SimF K cl W (tCB (rIsE K D a) (tCons te (tCons (tC v) tNil))) (dIsW a b f) := by
  intro δ σ H Q en po
  show te σ H _
  refine he.chain (P := fun H r => PostF K cl W σ H r Q) en po (fun c h => h) (fun H h => h) fun d y H1 _ s1 r1 p1 => ?_
  have p2 := p1.weak s1
  cases d with
  | adr i =>
    obtain ⟨rfl, p3⟩ := need_on p2
    unfold Rp at r1
    subst r1
    exact ⟨v, cv, b, rfl, hv, hk, p3 _ H1 (Same.refl H1) (rpb _) (fresh_no rfl)⟩
  | _ => exact p2.elim
/-- isinstance(what, C), C a class of the program -/
theorem q_isW {a : Addr} {oe : Obj} {c j : Nat} (hp : (a, oe) ∈ X.pn) (F : ExcF X.K cl c) (hz : Zc (.ref (cl c)) none oe) (hf : ∃ vs, oe.data = .fields vs) (hj : j < 5) (hm : X.mg "isinstance" = none) (he : QE X cl W e te f) (hx : X.mg x = some (.ref (cl j))) (hg : Gl X "isinstance" := by rfl) (hgc : Gl X x := by rfl) (hdb : (x == ("__debug__" : Str)) = false := by decide)
    (h1 : starEach [e, .Name x pc] X.env = (false, eval e X.env) :: starEach [.Name x pc] X.env := by rfl) (h2 : starEach [.Name x pc] X.env = (false, eval (.Name x pc) X.env) :: starEach [] X.env := by rfl) (hpl : (backTo pos (starEach [.Name x pc] X.env)).any (·.1) = false := by rfl) :
    QF X cl W (.Call (.Name "isinstance" p) [e, .Name x pc] [] pos) (tCB (rIsE X.K (cl c) a) (tCons te (tCons (tC (.ref (cl j))) tNil))) (dIsW a (decide (c = j)) f) :=
  ⟨pe_callB (call_isW hp F.ex hz hf) hg hm (by decide +kernel) (pa_cons he.pe (pa_cons (pe_glob hgc hx rfl hdb) pa_nil h2) h1) (by decide) (by decide) h1 hpl, isW_sim he.sim (fun u r => r) (F.own j hj)⟩
/-- isinstance(what, ValueError) -/
theorem q_isWV {a : Addr} {oe : Obj} {c : Nat} (hp : (a, oe) ∈ X.pn) (F : ExcF X.K cl c) (hz : Zc (.ref (cl c)) none oe) (hf : ∃ vs, oe.data = .fields vs) (hm : X.mg "isinstance" = none) (he : QE X cl W e te f) (hx : X.mg "ValueError" = none) (hg : Gl X "isinstance" := by rfl) (hgc : Gl X "ValueError" := by rfl)
    (h1 : starEach [e, .Name "ValueError" pc] X.env = (false, eval e X.env) :: starEach [.Name "ValueError" pc] X.env := by rfl) (h2 : starEach [.Name "ValueError" pc] X.env = (false, eval (.Name "ValueError" pc) X.env) :: starEach [] X.env := by rfl) (hpl : (backTo pos (starEach [.Name "ValueError" pc] X.env)).any (·.1) = false := by rfl) :
    QF X cl W (.Call (.Name "isinstance" p) [e, .Name "ValueError" pc] [] pos) (tCB (rIsE X.K (cl c) a) (tCons te (tCons (tC (.ty "ValueError")) tNil))) (dIsW a true f) :=
  ⟨pe_callB (call_isW hp F.ex hz hf) hg hm (by decide +kernel) (pa_cons he.pe (pa_cons (pe_bltn hgc hx (by decide +kernel) rfl (by decide) (by decide)) pa_nil h2) h1) (by decide) (by decide) h1 hpl, isW_sim he.sim (fun u r => by cases r; rfl) F.val⟩
end
/-! ### l.count(x), l.index(x) -/
section
variable {X : Cx} {cl : Nat → Addr} {W : WX} {K : Fg}
def rCountD (K : Fg) : V → List V → Hp → VK → Prop := fun x xs H Q => ∃ (a : Addr) (y : V) (d : PyData) (ds : List PyData), x = V.ref a ∧ xs = [y] ∧ Dp K H (V.ref a) (.list ds) ∧ Dp K H y d ∧
  SeqAt.shaped (.list ds) = true ∧ SeqAt.shaped d = true ∧ Q (.int ((ds.countP fun z => PyData.eqv z d : Nat) : Int)) H
theorem mt_countD (hu : X.A.units + 65 < cLine) : MtR X "list.count" (rCountD X.K) := by
  intro pins s σ H x xs v us Q I rx rxs h
  obtain ⟨a, y, d, ds, rfl, rfl, hl, hy, sl, sd, q⟩ := h
  cases rx
  cases rxs with
  | cons ry rt =>
    rename_i uy ut
    cases rt
    obtain ⟨bs, r1⟩ := Dp.reads I d y uy hy ry
    have hxs : PyData.canLayAll0 ds = true := SeqAt.canLay_of_shaped sl
    have hroom : X.A.units + 1 + min (PyData.depthAll ds) d.depth < cLine := by
      have := SeqAt.depth_of_shaped sd
      omega
    cases hl with
    | lst hs ha =>
      obtain ⟨its, rv, ⟨⟨cls, dd, data, sls⟩, n, ho, hc, hdn, hdt⟩, hlen⟩ := I.list hs
      simp only at hc hdt
      subst hc hdt
      obtain ⟨as, h4⟩ := Dp.readsAll I ds _ its ha rv
      have hmap : its.map (SeqAt.readOf s.heap) = ds := SeqAt.readsAll_map ds its as hxs h4
      refine call_meets PySem.F.slot_list_count ⟨_, ho, rfl⟩ PySem.F.entry_list_count (PySem.F.args_list_count_2 _ _)
        (SeqAt.list_countAt a its.toArray n dd sls uy (fun u => PyData.eqv (SeqAt.readOf s.heap u) d)) ⟨ho, SeqAt.items_eqAt (vs := its.toArray) (show ReadsAll s.heap its.toArray.toList ds as from h4) r1 hxs (SeqAt.canLay_of_shaped sd) hroom, ?_⟩
      have ec : its.toArray.toList.countP (fun u => PyData.eqv (SeqAt.readOf s.heap u) d) = ds.countP fun z => PyData.eqv z d := by
        rw [List.toList_toArray, ← hmap, List.countP_map]
        rfl
      refine ⟨.int ((ds.countP fun z => PyData.eqv z d : Nat) : Int), H, I.tok _, ⟨s.toks, ?_⟩, q⟩
      rw [← ec]
def oCountL (l d : D) : Res D := match l with
  | .list ds => Res.need (shpAll 7 ds = true ∧ shp 7 d = true) (.ok (.int ((ds.countP fun z => deq z d : Nat) : Int)))
  | _ => .stuck
def oIndexL (l d : D) : Res D := match l with
  | .list ds => Res.need (shpAll 7 ds = true ∧ shp 7 d = true) (match ds.findIdx? fun z => deq z d with
    | some j => .ok (.int (j : Nat))
    | none => .stuck)
  | _ => .stuck
theorem oCountL_ne (a b : D) : noExc (oCountL a b) := by
  unfold oCountL
  split
  · exact need_noExc ok_noExc
  · exact stuck_noExc
theorem oIndexL_ne (a b : D) : noExc (oIndexL a b) := by
  unfold oIndexL
  split
  · refine need_noExc ?_
    split
    · exact ok_noExc
    · exact stuck_noExc
  · exact stuck_noExc
theorem shaped_of {n : Nat} {d : D} (hn : n ≤ 60) (h : shp n d = true) : SeqAt.shaped (toPy d) = true := by
  obtain ⟨h1, h2⟩ := shp_lay n d h
  unfold SeqAt.shaped
  rw [h1]
  simp
  omega
def SimL (K : Fg) (cl : Nat → Addr) (r : V → List V → Hp → VK → Prop) (g : D → D → Res D) : Prop := ∀ (x y : V) (a b : D) (σ : L2.St) (H : Hp) (Q : VK), Rp K H a x → Rp K H b y → PostF K cl (fun _ _ _ _ => False) σ H (g a b) Q → r x [y] H Q
def isL (d : D) : Res D := match d with
  | .list l => .ok (.list l)
  | _ => .stuck
def dL2 (g : D → D → Res D) (f h : Dv → Res D) : Dv → Res D := fun δ => (f δ).bind fun a => (isL a).bind fun a => (h δ).bind fun b => g a b
@[simp] theorem dL2_at (g : D → D → Res D) (f h : Dv → Res D) (δ : Dv) : dL2 g f h δ = (f δ).bind fun a => (isL a).bind fun a => (h δ).bind fun b => g a b := rfl
@[simp] theorem isL_l (l : List D) : isL (.list l) = .ok (.list l) := rfl
variable {o a : Expr} {to ta : TE} {f h : Dv → Res D} {apos cpos : Pos}
theorem tBML_sim {r : V → List V → Hp → VK → Prop} {g : D → D → Res D} (so : SimE X.K cl W to f) (sa : SimE X.K cl W ta h) (sr : SimL X.K cl r g) (ne : ∀ a b, noExc (g a b)) : SimF X.K cl W (tBM X.K "list" r to (tCons ta tNil)) (dL2 g f h) := by
  intro δ σ H Q en po
  show to σ H _
  refine so.chain (P := fun H r => PostF X.K cl W σ H r Q) en po (fun c h => h) (fun H h => h) fun d v H1 _ s1 r1 p1 => ?_
  cases d with
  | list l =>
    obtain ⟨p, xs, rfl, hp, hx⟩ := rp_list r1
    refine ⟨.inl ⟨rfl, xs, Or.inl (Or.inl hp)⟩, ?_⟩
    show ta σ H1 _
    refine sa.chain (P := fun H r => PostF X.K cl W σ H r Q) (en.mono s1) (PostF.weak s1 p1) (fun c h => h) (fun H h => h) fun b y H2 _ s2 r2 p2 => ?_
    have p3 := p2.weak s2
    refine sr _ _ _ _ σ H2 Q (Rp.mono s2 _ _ r1) r2 ?_
    cases q : g (.list l) b with
    | ok d => rw [q] at p3; exact p3
    | exc c => exact (ne _ b c q).elim
    | stuck => rw [q] at p3; exact p3
  | _ => exact p1.elim
theorem sim_countL : SimL K cl (rCountD K) oCountL := by
  intro x y a b σ H Q ra rb po
  unfold oCountL at po
  split at po
  · rename_i ds
    obtain ⟨⟨c1, c2⟩, po⟩ := need_on po
    have hl : shp 8 (.list ds) = true := c1
    have d1 := Rp.dp 8 _ _ hl ra
    have d2 := Rp.dp 7 _ _ c2 rb
    obtain ⟨p, xs, rfl, _⟩ := rp_list ra
    have e : toPy (.list ds) = .list (toPyAll ds) := by unfold toPy; rfl
    rw [e] at d1
    refine ⟨p, y, _, _, rfl, rfl, d1, d2, by rw [← e]; exact shaped_of (by decide) hl, shaped_of (by decide) c2, ?_⟩
    have ec : ((toPyAll ds).countP fun z => PyData.eqv z (toPy b)) = ds.countP fun z => deq z b := by
      rw [toPyAll_map, List.countP_map]
      rfl
    rw [ec]
    exact po _ H (Same.refl H) (rpi _) (fresh_no rfl)
  · exact po.elim
theorem sim_indexL : SimL K cl (rIndexD K) oIndexL := by
  intro x y a b σ H Q ra rb po
  unfold oIndexL at po
  split at po
  · rename_i ds
    obtain ⟨⟨c1, c2⟩, po⟩ := need_on po
    have hl : shp 8 (.list ds) = true := c1
    have d1 := Rp.dp 8 _ _ hl ra
    have d2 := Rp.dp 7 _ _ c2 rb
    obtain ⟨p, xs, rfl, _⟩ := rp_list ra
    have e : toPy (.list ds) = .list (toPyAll ds) := by unfold toPy; rfl
    rw [e] at d1
    cases hf : ds.findIdx? fun z => deq z b with
    | none => rw [hf] at po; exact po.elim
    | some j =>
      rw [hf] at po
      obtain ⟨h1, h2, h3⟩ := List.findIdx?_eq_some_iff_getElem.mp hf
      refine ⟨p, y, _, _, j, toPy ds[j], rfl, rfl, d1, d2, by rw [← e]; exact shaped_of (by decide) hl, shaped_of (by decide) c2, ?_, h2, fun m z hm hz => ?_, po _ H (Same.refl H) (rpi _) (fresh_no rfl)⟩
      · rw [toPyAll_map, List.getElem?_map, List.getElem?_eq_getElem h1]
        rfl
      · rw [toPyAll_map, List.getElem?_map, List.getElem?_eq_getElem (by omega)] at hz
        cases hz
        have t : deq ds[m] b = false := by simpa using h3 m hm
        exact t
  · exact po.elim
theorem q_lcount (hu : X.A.units + 64 < cLine) (ho : QE X cl W o to f) (ha : QE X cl W a ta h) (hs : starEach [a] X.env = (false, eval a X.env) :: starEach [] X.env := by rfl) (hbase : attributeBase o "count" X.env (eval o X.env) = eval o X.env := by rfl)
    (hfew : ((backTo cpos (starEach [a] X.env)).all (fun x => !x.1) && (backToKw cpos (keywordEach [] X.env)).all (fun x => x.1.isSome) && decide (([a] : List Expr).length + ([] : List Keyword).length + (if ([] : List Keyword).isEmpty then 0 else 1) < 30)) = true := by rfl) (hline : (apos.endLine == cpos.line) = true := by rfl) (h65 : X.A.units + 65 < cLine) :
    QF X cl W (.Call (.Attribute o "count" apos) [a] [] cpos) (tBM X.K "list" (rCountD X.K) to (tCons ta tNil)) (dL2 oCountL f h) :=
  ⟨pe_bm PySem.F.plainAttrs_list PySem.F.slot_list_count PySem.F.type_list_count (mt_countD h65) ho.pe (pa_cons ha.pe pa_nil hs) (hbase := hbase) (hfew := hfew) (hline := hline) (hs := hs), tBML_sim ho.sim ha.sim sim_countL oCountL_ne⟩
theorem q_lindex (ho : QE X cl W o to f) (ha : QE X cl W a ta h) (hs : starEach [a] X.env = (false, eval a X.env) :: starEach [] X.env := by rfl) (hbase : attributeBase o "index" X.env (eval o X.env) = eval o X.env := by rfl)
    (hfew : ((backTo cpos (starEach [a] X.env)).all (fun x => !x.1) && (backToKw cpos (keywordEach [] X.env)).all (fun x => x.1.isSome) && decide (([a] : List Expr).length + ([] : List Keyword).length + (if ([] : List Keyword).isEmpty then 0 else 1) < 30)) = true := by rfl) (hline : (apos.endLine == cpos.line) = true := by rfl) (h65 : X.A.units + 65 < cLine) :
    QF X cl W (.Call (.Attribute o "index" apos) [a] [] cpos) (tBM X.K "list" (rIndexD X.K) to (tCons ta tNil)) (dL2 oIndexL f h) :=
  ⟨pe_bm PySem.F.plainAttrs_list PySem.F.slot_list_index PySem.F.type_list_index (mt_indexD h65) ho.pe (pa_cons ha.pe pa_nil hs) (hbase := hbase) (hfew := hfew) (hline := hline) (hs := hs), tBML_sim ho.sim ha.sim sim_indexL oIndexL_ne⟩
end
/-! ### the word for an exception -/
def word : Nat → List Nat
  | 0 => (Str.ofString "no letter").cps.toList
  | 1 => (Str.ofString "no place").cps.toList
  | 2 => (Str.ofString "bad wheel").cps.toList
  | 3 => (Str.ofString "no deed").cps.toList
  | _ => (Str.ofString "no text").cps.toList
def WordOk (P : Program) (w : World) (K : Fg) (mg : Str → Option Value) (base : Heap) (cl : Nat → Addr) (R : List Nat) (k : Nat) (f : Addr) (fd : FuncData) : Prop :=
  ∀ (A : Around) (outer : List PySem.Env) (s : Shared) (H : Hp) (args : Args) (a : Addr) (oe : Obj) (c : Nat) (Q : VK), L2H.RoomH k A → L2H.PinOk outer H s (a, oe) → Zc (.ref (cl c)) none oe → (∃ vs, oe.data = .fields vs) → c ∈ R → Env0 P w K mg base A outer s H → BindsTo s fd args ([("what" : Str)].zip [.ref a]) →
    (∀ H', Same H H' → Q (.str (S (word c))) H') → codeAny (model P w) A (.call (.ref f) args) (CR CX0 outer P w H s Q fun _ _ _ => False) s
section
variable {P : Program} {w : World} {K : Fg} {mg : Str → Option Value} {base : Heap} {cl : Nat → Addr} {R : List Nat}
theorem okW {x qual : Str} {st : Stmt} {f : Addr} {fd : FuncData} {N : List Str} {k : Nat} (F : Fun K x qual st f fd) (Sc : FnScope N ["what"] (defScope st)) (hN : 1 ≤ N.length)
    (hb : ∀ (a : Addr) (oe : Obj) (c : Nat) (cdv : Value) (A : Around) (outer : List PySem.Env) (s : Shared) (H : Hp) (E : XK), c ∈ R → Zc (.ref (cl c)) none oe → (∃ vs, oe.data = .fields vs) → L2H.RoomH k (A.deeper (PyProof.Rows.envOfC qual (defScope st) s.heap.objs.size f cdv)) →
      ∃ ts x, QSs (L2H.cxH CX0 P w K mg base N qual (defScope st) f cdv A outer s H E (a, oe)) cl W0 (defBody st) ts (gOf x) ∧ (x (startE N.length [.adr a])).res = .ok (.str (word c))) : WordOk P w K mg base cl R (k + 1) f fd := by
  obtain ⟨oc, od, kV, doc, pm, an, cdv, ct, osl, rfl, lk, hcd⟩ := F.ex
  intro A outer s H args a oe c Q hr hpin hz hf hcR e0 hbind hq
  have KX : K.In s.heap := e0.mod.kin.keeps fun b o e => (e0.bs b o e).1
  have lim : s.heap.NoLimit := e0.mod.nolimit.keeps fun b o e => (e0.bs b o e).1
  have hkind : ∀ y ∈ ([("what" : Str)].zip [Value.ref a]), (defScope st).names.lookup y.1 = some .local ∨ ((defScope st).names.lookup y.1 = some .cell ∧ ((cellsFrom (s.heap.objs.size + 1) (defScope st).names []).lookup y.1).isSome = true) := fun ⟨n, v⟩ hy => by
    rcases Sc.par n (List.of_mem_zip hy).1 with q | q
    · exact .inl q
    · exact .inr ⟨q, PySem.W.cellsFrom_some _ _ _ (.inl q)⟩
  refine codeAny_call_function hr.depth (KX _ _ lk) rfl Sc.co Sc.gen rfl (PySem.W.codeRec_of KX hcd) (hbind _ _ _ _ ?_)
  refine wpAny_newFunctionEnv_cells Sc.kind hkind fun env he s1 x1 => ?_
  subst he
  refine ⟨lim.keeps x1.toInCall.keep, codeAny_func ?_⟩
  obtain ⟨ts, x, q, hres⟩ := hb a oe c cdv A outer s H (fun _ _ _ => False) hcR hz hf (hr.deeper _)
  have I := L2H.inv_startH (CX := CX0) (P := P) (w := w) (E := fun _ _ _ => False) Sc (vs := [.ref a]) hpin e0 rfl (.cons rfl .nil) x1
  have hg : gOf x (ends (.ok (.str (word c)))) (startE N.length [.adr a]) := by
    have hne : runX 1 N.length x [.adr a] = .ok (.str (word c)) := by
      unfold runX
      exact (if_pos (show [D.adr a].length = 1 from rfl)).trans hres
    have z := runX_rd (n := 1) (N := N.length) (x := x) (ds := [.adr a]) rfl (by rw [hne]; intro z; cases z)
    rw [hne] at z
    exact z
  have ht : ts { nx := fun _ H' => Q .non H', rt := Q } (L2.start N [.ref a]) H := by
    refine q.sim H (ends (.ok (.str (word c)))) _ _ _ H ⟨fun ε σ H' sq e => ?_, fun d v H' sm rp fr e => ?_, fun c ε σ H' sq e => ?_, fun _ _ _ _ z => z.elim, fun _ _ _ _ z => z.elim⟩ (start_sq (.cons (by unfold Rp; rfl) .nil) hN) hg
    · cases e
    · cases e
      unfold Rp at rp
      subst rp
      exact hq H' sm
    · cases e
  refine wpAny_mono (q.ps.run [] s1 (L2.start N [.ref a]) H _ I ht) (fun fl s' hs => ?_) fun e s' hs => hs
  cases fl with
  | ret u =>
    obtain ⟨v, σ', H', J, rv, q⟩ := hs
    exact ⟨v, H', J.os, J.bare, J.base, J.hok, rv, q⟩
  | next =>
    obtain ⟨σ', H', J, q⟩ := hs
    exact ⟨V.non, H', J.os, J.bare, J.base, J.hok, rfl, q⟩
  | brk =>
    obtain ⟨_, _, _, q⟩ := hs
    exact False.elim q
  | cont =>
    obtain ⟨_, _, _, q⟩ := hs
    exact False.elim q
end
/-! ### try: .. except OrderError as e: return _law_word(e) -/
section
variable {X : Cx} {cl : Nat → Addr} {W : WX} {R : List Nat} {k i : Nat} {f CO : Addr} {fd : FuncData} {tb : WX → TS} {g : DS} {body : List Stmt} {np p1 p2 p3 p4 pos pos' : Pos}
def gTry (R : List Nat) (i : Nat) (g : DS) : DS := fun d ε => g { d with ex := fun c ε' => i < ε'.length ∧ c ∈ R ∧ d.rt (.str (word c)) } ε
def xTry (R : List Nat) (i : Nat) (x : XS) : XS := fun ε => match x ε with
  | .ex c ε' => if i < ε'.length ∧ c ∈ R then .rt (.str (word c)) else .stuck
  | o => o
def Out.tr (R : List Nat) (i : Nat) (o : Out) : Out := match o with
  | .ex c ε' => if i < ε'.length ∧ c ∈ R then .rt (.str (word c)) else .stuck
  | o => o
@[simp] theorem xTry_at (x : XS) (ε : Env) : xTry R i x ε = (x ε).tr R i := rfl
@[simp] theorem tr_nx (ε : Env) : (Out.nx ε).tr R i = .nx ε := rfl
@[simp] theorem tr_rt (d : D) : (Out.rt d).tr R i = .rt d := rfl
@[simp] theorem tr_ex (c : Nat) (ε : Env) : (Out.ex c ε).tr R i = if i < ε.length ∧ c ∈ R then .rt (.str (word c)) else .stuck := rfl
theorem snd_try {x : XS} (h : Snd g x) : Snd (gTry R i g) (xTry R i x) := fun d ε hh => by
  refine h _ ε ?_
  unfold xTry at hh
  cases e : x ε with
  | ex c ε' =>
    rw [e] at hh
    by_cases q : i < ε'.length ∧ c ∈ R
    · simp only [if_pos q] at hh
      exact ⟨q.1, q.2, hh⟩
    · simp only [if_neg q] at hh
      exact hh.elim
  | nx _ => rw [e] at hh; exact hh
  | rt _ => rw [e] at hh; exact hh
  | bk _ => rw [e] at hh; exact hh
  | ct _ => rw [e] at hh; exact hh
  | stuck => rw [e] at hh; exact hh
def tW (cl : Nat → Addr) (R : List Nat) (i : Nat) (a : Addr) (cls : Value) (d : Option Addr) : TE := fun σ H Q => ∃ c, c ∈ R ∧ cls = .ref (cl c) ∧ d = none ∧ σ[i]? = some (some (.ref a)) ∧ ∀ H', Same H H' → Q (.str (S (word c))) H'
theorem pe_word {Y : Cx} {a : Addr} {oe : Obj} {cls : Value} {d : Option Addr} {p3 p2 p1 : Pos} (hp : (a, oe) ∈ Y.pn) (hz : Zc cls d oe) (hfl : ∃ vs, oe.data = .fields vs) (hw : WordOk Y.prog Y.w Y.K Y.mg Y.base cl R k f fd) (hm : Y.mg "_law_word" = some (.ref f)) (hk : PySem.W.keepIn Y.K (.ref f) = true) (hb : Binds Y.K fd ["what"] []) (hr : L2H.RoomH k Y.A)
    (hv : PE Y (.Name "e" p2) (tVar i)) (hg : Gl Y "_law_word" := by rfl) (he : starEach [.Name "e" p2] Y.env = (false, eval (.Name "e" p2) Y.env) :: starEach [] Y.env := by rfl) :
    PE Y (.Call (.Name "_law_word" p1) [.Name "e" p2] [] p3) (tW cl R i a cls d) := by
  refine ⟨fun pins s σ H Q I h => ?_⟩
  obtain ⟨c, hcR, rfl, rfl, hσ, hq⟩ := h
  refine wpAny_Call_Name_kw (ld_glob I hg hm ?_ (by decide))
  refine PySem.W.callWith_K (h₀ := Y.base) I.ok.mod.kin hk (thn ((pa_cons hv pa_nil he).run p3 pins s σ H (fun vs H1 => vs = [.ref a] ∧ H1 = H) I ⟨.ref a, hσ, rfl, rfl⟩) fun us s1 ⟨vs, H1, I1, r, e1, e2⟩ => ⟨I1.kIn, ?_⟩) he rfl
  subst e1 e2
  obtain ⟨u, rfl, ru⟩ := r.one
  cases ru
  have b := hb s1 [.ref a] I1.kIn rfl
  rw [List.append_nil] at b
  have P1 := I1.pin (a, oe) (List.mem_append_left _ hp)
  have hpin : L2H.PinOk Y.stack H1 s1 (a, oe) := ⟨P1.1, P1.2.1, fun hm => (List.mem_cons.mp (I1.stkSub a hm)).elim P1.2.2.1 P1.2.2.2.1, P1.2.2.2.2⟩
  refine wpAny_call (codeAny_mono (hw Y.A Y.stack s1 H1 ⟨[.ref a], []⟩ a oe c Q hr hpin hz hfl hcR I1.env0 b hq) fun r s' hq2 => ?_)
  cases r with
  | error e => exact hq2.elim
  | ok fl =>
    cases fl with
    | ret u => exact I1.after hq2
    | next => exact False.elim hq2
    | brk => exact False.elim hq2
    | cont => exact False.elim hq2
theorem s_try (hex : X.ex = []) (hs : X.stack = X.env :: X.outer) (hf : X.env.frame = some X.env.locals) (hN : X.N.Nodup) (hi : X.N[i]? = some "e") (hln : X.env.kindOf "e" = some .local) (hO : Names X "OrderError" (.ref CO)) (tk : Takes X W) (hR : ∀ c ∈ R, PySem.W.exmOne X.K (.ref (cl c)) (.ref CO) = some true)
    (hw : WordOk X.prog X.w X.K X.mg X.base cl R k f fd) (hm : X.mg "_law_word" = some (.ref f)) (hk : PySem.W.keepIn X.K (.ref f) = true) (hbd : Binds X.K fd ["what"] []) (hr : L2H.RoomH k X.A) (hvis : Vis X.env.scope "e") (hg : Gl X "_law_word" := by rfl) (he : starEach [.Name "e" p2] X.env = (false, eval (.Name "e" p2) X.env) :: starEach [] X.env := by rfl)
    (hb : ∀ (W' : WX) (pn : List (Addr × Obj)) (xe : Value → Shared → Prop), Takes (X.tr pn xe) W' → PassesOwn (model X.prog X.w) X.A X.env xe → QSs (X.tr pn xe) cl W' body (tb W') g) :
    QS X cl W (.Try body [.ExceptHandler (some (.Name "OrderError" np)) (some "e") [.Return (some (.Call (.Name "_law_word" p1) [.Name "e" p2] [] p3)) p4] pos'] [] [] pos) (fun D σ H => tb (wAs X.K (.ref CO) i (fun a cls d => tRet (tW cl R i a cls d)) W D) D σ H) (gTry R i g) := by
  refine ⟨ps_try_as hs hf hN hi hln hO tk (fun W' pn xe t po => (hb W' pn xe t po).ps) (fun a oe cls d pn hz hfl => pss_one (ps_ret ?_)), fun H0 d D' ε σ H en q hh => ?_⟩
  · exact pe_word (Y := X.suite a ((a, oe) :: pn)) (List.mem_cons_self) hz hfl hw hm hk hbd ⟨hr.dp, hr.un⟩ (pe_var (X := X.suite a ((a, oe) :: pn)) hi hvis) hg he
  · show tb _ D' σ H
    have hq := hb (wAs X.K (.ref CO) i (fun a cls d => tRet (tW cl R i a cls d)) W D') [] (fun e s' => wpAny (model X.prog X.w) X.A (leaving X.env e) (fun _ s'' => L2.CX X.prog X.w X.outer X.H_0 X.s_0 (fun _ _ _ => True) e s'') (fun _ _ => False) s') (fun u s' x => XE.leave (X := X.tr [] _) (W := wAs X.K (.ref CO) i (fun a cls d => tRet (tW cl R i a cls d)) W D') (E := fun _ _ _ => True) hs hf hex (fun _ _ _ _ _ => trivial) x) PassesOwn.leaving
    refine hq.sim H0 { d with ex := fun c ε' => i < ε'.length ∧ c ∈ R ∧ d.rt (.str (word c)) } D' ε σ H ⟨en.nx, en.rt, fun c ε' σ' H' sq e => ?_, en.bk, en.ct⟩ q hh
    obtain ⟨hl, hcR, hrt⟩ := e
    refine ⟨true, hR c hcR, fun _ a ha => ?_, fun z => by cases z⟩
    refine ⟨c, hcR, rfl, rfl, ?_, fun H2 sm => ?_⟩
    · rw [List.getElem?_set_self (by rw [sq.2]; exact hl)]
    · exact en.rt _ _ _ (sq.1.same.trans sm) (rps _) (fresh_no rfl) hrt
end
/-- the word's def, and the class that all are of -/
def CalW (P : Program) (w : World) (K : Fg) (mg : Str → Option Value) (base : Heap) (cl : Nat → Addr) (R : List Nat) (k : Nat) : Prop := ∃ f fd CO, WordOk P w K mg base cl R k f fd ∧ mg "_law_word" = some (.ref f) ∧ PySem.W.keepIn K (.ref f) = true ∧ Binds K fd ["what"] [] ∧ mg "OrderError" = some (.ref CO) ∧ ∀ c ∈ R, PySem.W.exmOne K (.ref (cl c)) (.ref CO) = some true
section
variable {X : Cx} {cl : Nat → Addr} {W : WX} {R : List Nat} {k i : Nat} {tb : WX → TS} {g : DS} {body : List Stmt} {np p1 p2 p3 p4 pos pos' : Pos}
/-- what a block does, by the data alone -/
def canS (K : Fg) (cl : Nat → Addr) (W : WX) (g : DS) : TS := fun D' σ H => ∃ H0 d ε, EndR K cl W H0 d D' ∧ SQ K H0 ε σ H ∧ g d ε
theorem QSs.can {t : TS} (h : QSs X cl W body t g) : QSs X cl W body (canS X.K cl W g) g :=
  ⟨⟨fun pins s σ H D' I ⟨H0, d, ε, en, q, hg⟩ => h.ps.run pins s σ H D' I (h.sim H0 d D' ε σ H en q hg)⟩, fun H0 d D' ε σ H en q hg => ⟨H0, d, ε, en, q, hg⟩⟩
/-- the body of a try -/
def tryBody : List Stmt → List Stmt
  | .Try b _ _ _ _ :: _ => b
  | _ => []
theorem s_tryC (hb : ∀ (W' : WX) (pn : List (Addr × Obj)) (xe : Value → Shared → Prop), Takes (X.tr pn xe) W' → PassesOwn (model X.prog X.w) X.A X.env xe → ∃ t, QSs (X.tr pn xe) cl W' body t g) (C : CalW X.prog X.w X.K X.mg X.base cl R k) (hr : Room k X.A) (tk : Takes X W) (hex : X.ex = []) (hs : X.stack = X.env :: X.outer) (hf : X.env.frame = some X.env.locals) (hN : X.N.Nodup) (hi : X.N[i]? = some "e") (hln : X.env.kindOf "e" = some .local) (hvis : Vis X.env.scope "e")
    (hgO : Gl X "OrderError" := by rfl) (hg : Gl X "_law_word" := by rfl) (he : starEach [.Name "e" p2] X.env = (false, eval (.Name "e" p2) X.env) :: starEach [] X.env := by rfl) :
    ∃ t, QS X cl W (.Try body [.ExceptHandler (some (.Name "OrderError" np)) (some "e") [.Return (some (.Call (.Name "_law_word" p1) [.Name "e" p2] [] p3)) p4] pos'] [] [] pos) t (gTry R i g) := by
  obtain ⟨f, fd, CO, h1, h2, h3, h4, h5, h6⟩ := C
  exact ⟨_, s_try (tb := fun W' => canS X.K cl W' g) hex hs hf hN hi hln ⟨hgO, by decide, .inl h5⟩ tk h6 h1 h2 h3 h4 (L2H.roomH_of hr) hvis hg he fun W' pn xe t po => by
    obtain ⟨t2, q⟩ := hb W' pn xe t po
    exact q.can⟩
end
@[simp] theorem dIsW_at (a : Addr) (b : Bool) (f : Dv → Res D) (δ : Dv) : dIsW a b f δ = (f δ).bind (fun d => match d with
  | .adr i => Res.need (i = a) (.ok (.bool b))
  | _ => .stuck) := rfl
@[simp] theorem oCountL_l (ds : List D) (d : D) : oCountL (.list ds) d = Res.need (shpAll 7 ds = true ∧ shp 7 d = true) (.ok (.int ((ds.countP fun z => deq z d : Nat) : Int))) := rfl
@[simp] theorem oIndexL_l (ds : List D) (d : D) : oIndexL (.list ds) d = Res.need (shpAll 7 ds = true ∧ shp 7 d = true) (match ds.findIdx? fun z => deq z d with
    | some j => .ok (.int (j : Nat))
    | none => .stuck) := rfl
end DL
namespace DL
theorem exQ {X : L2.Cx} {cl : Nat → PySem.Addr} {W : L2.WX} {st : PySem.Stmt} {g : DS} (h : ∃ t, QS X cl W st t g) : QS X cl W st h.choose g := h.choose_spec
theorem hu65 {k : Nat} {A : PySem.Around} (hr : L2.Room k A) : A.units + 65 < PySem.cLine := by have := hr.un; omega
end DL
namespace DL
open PySem L2
section
variable {X : Cx} {cl : Nat → Addr} {W : WX} {p pos : Pos} {x : Str}
/-! ### f() -/
theorem q_fn0 {k : Nat} {F : List D → Res D} (C : Cal X.prog X.w X.K X.mg X.base cl k x 0 F) (hr : Room k X.A) (tk : Takes X W) (hg : Gl X x := by rfl) (hdb : (x == ("__debug__" : Str)) = false := by decide) :
    QF X cl W (.Call (.Name x p) [] [] pos) (tCallS (spD X.K cl 0 F) (WE W) tNil) (dCall 0 F dNil) := by
  obtain ⟨f, fd, ps, G, hm, hk, hb⟩ := C
  refine ⟨⟨fun pins s σ H Q I h => ?_⟩, tCallS_sim a_nil.sim⟩
  refine wpAny_Call_Name_kw (ld_glob I hg hm ?_ hdb)
  exact PySem.W.callWith_K0 I.kIn hk (run_fnS G hr hb (passAt tk σ) I .nil h)
/-! ### isinstance of own exceptions, from what the part answers -/
theorem kit_own {K : Fg} {C : Addr} : PySem.W.kitOne K (.ref C) (.ref C) = some true := by
  unfold PySem.W.kitOne
  rw [if_pos (beq_self_eq_true _)]
theorem kit_not {K : Fg} {C J : Addr} (h : PySem.W.subIn K (.ref C) (.ref J) = some false) (h2 : PySem.W.subIn K (.ref J) (.ref J) = some true) (hd : PySem.W.hasDictIn K J = true) (ht : PySem.W.typeIn K (.ref J) = some (.type "type")) : PySem.W.kitOne K (.ref C) (.ref J) = some false := by
  unfold PySem.W.kitOne
  have hne : (Value.ref C == Value.ref J) = false := by
    cases e : (Value.ref C == Value.ref J) with
    | false => rfl
    | true =>
      have e' := beq_iff_eq.mp e
      rw [e', h2] at h
      cases h
  have hc : (PySem.W.clsIn K J).isSome = true := by
    obtain ⟨a, ha, _⟩ := PySem.W.any_some hd
    rw [ha]; rfl
  rw [hne]
  unfold PySem.W.kitCls
  show (if ((PySem.W.clsIn K J).isSome && PySem.W.typeIn K (.ref J) == some (.type "type")) = true then PySem.W.subIn K (.ref C) (.ref J) else none) = some false
  rw [ht, hc]
  exact h
theorem kit_val {K : Fg} {C : Addr} (h : PySem.W.subIn K (.ref C) (.type "ValueError") = some true) : PySem.W.kitOne K (.ref C) (.type "ValueError") = some true := h
/-! ### is not None -/
variable {a b : Expr} {ta tb : TE} {f h : Dv → Res D}
def oIsnt (d e : D) : Res D := match e with
  | .none => .ok (.bool (!isNon d))
  | _ => .stuck
theorem oIsnt_ne (d e : D) : noExc (oIsnt d e) := by
  unfold oIsnt
  split
  · exact ok_noExc
  · exact stuck_noExc
def rIsnt : R2 := fun x y H Q => y = .non ∧ Q (.bl (!decide (x = .non))) H
theorem sim_isnt {K : Fg} : SimR K cl rIsnt oIsnt := by
  intro x y d e2 σ H Q ra rb po
  unfold oIsnt at po
  split at po
  · unfold Rp at rb
    refine ⟨rb, ?_⟩
    rw [isNon_rp ra]
    exact po _ H (Same.refl H) (rpb _) (fresh_no rfl)
  · exact po.elim
theorem q_isnot (ha : QE X cl W a ta f) (hb : QE X cl W b tb h) (hm : behindInMarks .IsNot b = false := by rfl) : QF X cl W (.Compare a [.IsNot] [b] pos) (tOp rIsnt ta tb) (d2 oIsnt f h) := q_cmp op_notN sim_isnt oIsnt_ne ha hb hm
theorem t_isnot (ha : QE X cl W a ta f) (hb : QE X cl W b tb h) (hm : behindInMarks .IsNot b = false := by rfl) : QT X cl W (.Compare a [.IsNot] [b] pos) (tTest (tOp rIsnt ta tb)) (dB (d2 oIsnt f h)) := qt_cmp op_notN sim_isnt oIsnt_ne ha hb hm
@[simp] theorem oIsnt_n (d : D) : oIsnt d .none = .ok (.bool (!isNon d)) := rfl
@[simp] theorem oIsN_n (d : D) : oIsN d .none = .ok (.bool (isNon d)) := rfl
@[simp] theorem isNon_n : isNon .none = true := rfl
@[simp] theorem isNon_t (l : List D) : isNon (.tuple l) = false := rfl
@[simp] theorem isNon_s (l : List Nat) : isNon (.str l) = false := rfl
@[simp] theorem isNon_i (i : Int) : isNon (.int i) = false := rfl
end
end DL
namespace DL
open PySem L2
/-! ### exceptions out of a comprehension -/
/-- the frame notes an exception, wherever its flight stands -/
theorem note_any {M : Model} {A : Around} {Ex : Value → Shared → Prop} {st : Shared} {gd : Heap} {en : PySem.Env} {ou : List PySem.Env} {x L : Addr} {Z : Obj → Prop} {fl : Value} {P : Unit → Shared → Prop} (hZ : HandSPX.Steady Z) (hA : A.frames = some (en :: ou)) (hL : en.frame = some L)
    (kb : gd.StaysIn st.heap) (nx : gd.get? x = none) (ff : st.heap.FunFrames gd (en :: ou)) (tr : HandSPX.TracedZ st.heap gd x Z fl)
    (goal : ∀ h', HandSPX.HeldZ gd (en :: ou) x Z L h' → st.heap.UpToSlots h' → P () { st with heap := h' }) : wpAny M A (noteFrame (.ref x) en) P Ex st := by
  by_cases q : (fl == rawInt L) = true
  · have q' : fl = rawInt L := beq_iff_eq.mp q
    subst q'
    exact HandSPX.againZ hL tr (goal _ ⟨kb, nx, ff, tr⟩ (Heap.UpToSlots.refl _))
  · obtain ⟨ox, xs, T, ot, tz, gx, zx, dx, x1, nT, Tx, gT, dT, t3⟩ := tr
    unfold noteFrame
    simp only [hL]
    refine wpAny_bind (wpAny_field gx dx x1 ?_)
    rw [if_pos (by simp : (Value.ref T != Value.none) = true)]
    refine wpAny_bind (wpAny_field gT dT t3 ?_)
    rw [if_neg q]
    refine wpAny_bind (wpAny_setField gT dT (Array.getElem?_eq_some_iff.mp t3).1 ?_)
    have oth : ∀ b, b ≠ T → (st.heap.update T (Obj.mapFields (·.setIfInBounds 3 Value.none))).get? b = st.heap.get? b := fun b z => Heap.get?_update_other _ _ (Ne.symm z)
    have nr : ∀ b o, st.heap.get? b = some o → (∀ w, o.data ≠ .fields w) → b ≠ T := fun b o z1 z2 z3 => by
      rw [z3, gT] at z1
      cases z1
      exact z2 tz dT
    refine HandSPX.wpAny_entryZ hZ hA (ff.of_keeps fun b o z1 z2 => ⟨o, (oth b (nr b o z1 z2)).trans z1, rfl⟩) hL ((oth x (Ne.symm Tx)).trans gx) (fun b o z1 => ?_) nx dx (Array.getElem?_eq_some_iff.mp x1).1 zx fun h' hn => ?_
    · refine (oth b fun z => ?_).trans (kb b o z1)
      rw [z, nT] at z1
      cases z1
    · obtain ⟨y1, y2, y3, y4⟩ := hn
      exact goal h' ⟨y1, nx, y2, y3⟩ fun b o z1 z2 => y4 b o ((oth b (nr b o z1 z2)).trans z1) z2
/-- a sky's exception, noted by a frame -/
theorem note_sky {M : Model} {A : Around} {Ex : Value → Shared → Prop} {st : Shared} {gd : Heap} {en : PySem.Env} {ou : List PySem.Env} {x L L' : Addr} {Z : Obj → Prop} {P : Unit → Shared → Prop} (hZ : HandSPX.Steady Z) (hA : A.frames = some (en :: ou)) (hL : en.frame = some L)
    (sk : Sky gd (en :: ou) x Z L' st.heap) (goal : ∀ h', HandSPX.HeldZ gd (en :: ou) x Z L h' → st.heap.UpToSlots h' → P () { st with heap := h' }) : wpAny M A (noteFrame (.ref x) en) P Ex st := by
  rcases sk with ⟨b1, b2, b3, ox, xs, b4, b5, b6, b7⟩ | ⟨b1, b2, b3, b4⟩ | ⟨b1, b2, b3, b4⟩
  · exact HandSPX.look_newZ hZ hA b3 hL b4 b1 b2 b6 b7 b5 goal
  · exact note_any hZ hA hL b1 b2 b3 b4 goal
  · exact note_any hZ hA hL b1 b2 b3 b4 goal
section
variable {X : Cx} {W : WX} {pins : List (Addr × Obj)} {σ : L2.St} {H3 : Hp} {s3 : Shared}
abbrev xbOf (X : Cx) (ce : PySem.Env) : Value → Shared → Prop := notedBy (model X.prog X.w) X.A ce (CompFails (model X.prog X.w) X.A X.xe ce)
/-- what a block lets out, its def takes -/
theorem takes_blk {scope : Scope} {ce : PySem.Env} {fp : List Addr} (hst : X.stack = X.env :: X.outer) (hf : X.env.frame = some X.env.locals) (tk : Takes X W) (hW : ∀ c d σ σ' H, W c d σ H → W c d σ' H)
    (I3 : Inv X pins σ H3 s3) (f3 : ∀ b ∈ fp, FpOk X pins H3 b ∧ b < s3.heap.objs.size) (hcf : ce.frame = X.env.frame) (hcl : s3.heap.objs.size ≤ ce.locals) :
    Takes ((X.blk s3 H3 scope ce fp).tr [] (xbOf X ce)) W := by
  intro u s' xe
  obtain ⟨a, B, sI, pn, σ2, H, cls, d, rfl, I, nb, up, sky, na, os, ag, w⟩ := xe
  have nb : ∀ b o, sI.heap.get? b = some o → b ∉ frs X.stack → B.get? b = some o := nb
  have sky : Sky B X.stack a (Zc cls d) ce.locals s'.heap := sky
  have IX : Inv X pins σ H sI := I3.call' (ch := fp) I.os I.base I.hok I.bare fun b hb => ⟨(f3 b hb).1.2.2.2.1, (f3 b hb).1.2.1, (f3 b hb).1.2.2.2.2.1, (f3 b hb).1.2.2.2.2.2⟩
  have hA : X.A.frames = some (X.env :: X.outer) := by rw [I3.ok.frames, hst]
  obtain ⟨m, hm, _⟩ := I.loc
  have hm : sI.heap.Ns ce.locals m := hm
  have hCn : H ce.locals = none := I.free
  have fpC : FpOk X pins H ce.locals := I3.fpOk hcl hCn
  have nofr : ce.locals ∉ frs X.stack := by
    rw [hst]
    intro z
    rcases List.mem_filterMap.mp z with ⟨e, he, hz⟩
    rcases List.mem_cons.mp he with z1 | z1
    · subst z1
      rw [hf] at hz
      exact fpC.2.1 (Option.some.inj hz).symm
    · exact fpC.2.2.1 (List.mem_filterMap.mpr ⟨e, z1, hz⟩)
  show wpAny _ X.A (noteFrame (.ref a) ce) _ _ s'
  rw [noteFrame_env _ hcf]
  rw [hst] at sky
  refine note_sky Zc.steady hA hf sky fun h1 hh up1 => ?_
  have hm1 : h1.Ns ce.locals m := (hm.upToSlots up).upToSlots up1
  refine ⟨m, hm1, fun h2 m2 hm2 sb => ?_⟩
  obtain ⟨c1, c2, c3, c4⟩ := hh
  obtain ⟨oL, es, ep, hoL, hdL, _⟩ := id hm1
  obtain ⟨o2, es2, ep2, ho2, hd2, _⟩ := id hm2
  obtain ⟨oI, _, _, hoI, _⟩ := id hm
  have hBC : B.get? ce.locals = some oI := nb _ _ hoI nofr
  have nfree : o2.isFreed = false := by
    obtain ⟨q1, q2, q3, q4⟩ := o2
    have hd2 : q3 = _ := hd2
    subst hd2
    rfl
  have gC : ∀ (g : Heap) (o : Obj), g.get? ce.locals = some o → (g.update ce.locals (fun _ => o2)).get? ce.locals = some o2 := fun g o e => Heap.get?_update_self (fun _ => o2) e nfree
  have gO : ∀ (g : Heap) (b : Addr), b ≠ ce.locals → (g.update ce.locals (fun _ => o2)).get? b = g.get? b := fun g b z => Heap.get?_update_other _ _ (Ne.symm z)
  have B2 : (B.update ce.locals (fun _ => o2)).StaysIn h2 := fun b o e => by
    by_cases z : b = ce.locals
    · subst z
      rw [gC B oI hBC] at e
      cases e
      exact ho2
    · rw [gO B b z] at e
      exact (sb.2 b z).trans (c1 b o e)
  have aC : a ≠ ce.locals := fun z => by
    obtain ⟨oe, vs, T, ot, ts, he, hz, hd, _⟩ := c4
    rw [z, hoL] at he
    cases he
    rw [hdL] at hd
    cases hd
  have F2 : h2.FunFrames (B.update ce.locals (fun _ => o2)) (X.env :: X.outer) := by
    refine funFrames_none (Heap.FunFrames.sameBut sb hm2 c3) fun L hL => ?_
    have nL : L ≠ ce.locals := fun z => nofr (by rw [hst, ← z]; exact hL)
    rw [gO B L nL]
    exact (c3.mem hL).1
  have T2 : HandSPX.TracedZ h2 (B.update ce.locals (fun _ => o2)) a (Zc cls d) (rawInt X.env.locals) := by
    obtain ⟨oe, vs, T, ot, ts, he, hz, hd, h1', nT, Ta, hT, hdT, h3⟩ := c4
    have TC : T ≠ ce.locals := fun z => by
      rw [z, hoL] at hT
      cases hT
      rw [hdL] at hdT
      cases hdT
    exact ⟨oe, vs, T, ot, ts, (sb.2 a aC).trans he, hz, hd, h1', by rw [gO B T TC]; exact nT, Ta, (sb.2 T TC).trans hT, hdT, h3⟩
  obtain ⟨oe, vs, T, ot, ts, he, hz, hd, h1', _⟩ := id T2
  unfold passOn
  refine wpAny_bind (wpAny_field he hd h1' ?_)
  rw [if_neg (by simp : ¬ ((Value.ref T == Value.none) = true)), hcf, hf]
  refine wpAny_bind (HandSPX.setFlight_anyZ B2 F2 T2 fun h4 k1 k2 k3 k4 => ?_)
  refine wpAny_throw (tk _ _ ⟨a, B.update ce.locals (fun _ => o2), { sI with heap := sI.heap.update ce.locals (fun _ => o2), toks := sI.toks }, pins, σ, H, cls, d, rfl, ?_, ?_, ?_, ?_, na, os, ag, hW _ _ _ _ _ w⟩)
  · exact IX.turned (t' := sI.toks) (fun b o z e => (gO sI.heap b z).trans e) fpC.1 fpC.2.1 fpC.2.2.2.1 fpC.2.2.2.2.1 fpC.2.2.2.2.2
  · intro b o e z
    by_cases q : b = ce.locals
    · subst q
      have e : (sI.heap.update ce.locals (fun _ => o2)).get? ce.locals = some o := e
      rw [gC sI.heap oI hoI] at e
      cases e
      exact gC B oI hBC
    · have e : (sI.heap.update ce.locals (fun _ => o2)).get? b = some o := e
      rw [gO sI.heap b q] at e
      rw [gO B b q]
      exact nb b o e z
  · intro b o e nf
    have e : (sI.heap.update ce.locals (fun _ => o2)).get? b = some o := e
    by_cases q : b = ce.locals
    · subst q
      rw [gC sI.heap oI hoI] at e
      cases e
      exact k4 _ _ ho2 nf
    · rw [gO sI.heap b q] at e
      obtain ⟨l1, e1⟩ := up b o e nf
      obtain ⟨l2, e2⟩ := up1 b _ e1 nf
      have e3 := (sb.2 b q).trans e2
      obtain ⟨l3, e4⟩ := k4 b _ e3 nf
      exact ⟨l3, e4⟩
  · rw [hst]
    refine .inr (.inr ⟨k1, ?_, k2, k3⟩)
    rw [gO B a aC]
    exact c2
end
theorem inv_xe {X : Cx} {pins : List (Addr × Obj)} {σ : L2.St} {H : Hp} {s : Shared} {xb : Value → Shared → Prop} (I : L2.Inv X pins σ H s) : L2.Inv (X.tr X.pn xb) pins σ H s := ⟨I.ok.toTry _ _, I.os, I.bare, I.base, I.loc, I.cell, I.free, I.freeC, I.pin, I.hok, I.len⟩
theorem inv_ex {X : Cx} {pins : List (Addr × Obj)} {σ : L2.St} {H : Hp} {s : Shared} {xb : Value → Shared → Prop} (I : L2.Inv (X.tr X.pn xb) pins σ H s) : L2.Inv X pins σ H s := ⟨I.ok.ofTry, I.os, I.bare, I.base, I.loc, I.cell, I.free, I.freeC, I.pin, I.hok, I.len⟩
/-- a list comprehension whose items may raise -/
theorem lcx_core {X : Cx} {W : WX} {pins : List (Addr × Obj)} {s : Shared} {σ : L2.St} {H : Hp} {Q : VK} {elt tg iter : Expr} {ifs : List Expr} {scope : Scope} {own : List (Str × Nat)} {pos pos' : Pos} {wi : TI} {g : TG} {tt : TT} {te : TE} {Qf : Value → Shared → Prop}
    (hst : X.stack = X.env :: X.outer) (hf : X.env.frame = some X.env.locals) (tk : Takes X W) (hW : ∀ c d σ σ' H, W c d σ H → W c d σ' H)
    (hc : X.calm = true) (hN : X.N.Nodup) (I : L2.Inv X pins σ H s) (hi : PI X tg iter wi) (ok : BlkOk X.N X.env.scope scope own)
    (hg : ∀ (s : Shared) (H : Hp) (C : Addr) (cs : List (Str × Addr)) (fp : List Addr), PG (X.blk s H scope (compEnvC scope cs C X.env) fp) tg g)
    (ht : ∀ (s : Shared) (H : Hp) (C : Addr) (cs : List (Str × Addr)) (fp : List Addr), PTs (X.blk s H scope (compEnvC scope cs C X.env) fp) ifs tt)
    (he : ∀ (s : Shared) (H : Hp) (C : Addr) (cs : List (Str × Addr)) (fp : List Addr) (xb : Value → Shared → Prop), Takes ((X.blk s H scope (compEnvC scope cs C X.env) fp).tr [] xb) W → PE ((X.blk s H scope (compEnvC scope cs C X.env) fp).tr [] xb) elt te)
    (hs : ∀ x, foldedSetIterable iter X.env x = pure x) (h : tLc wi g tt te (own.map (·.2)) σ H Q)
    (hRR : ∀ Dl C sh' hp' h9, L2.Inv X pins σ hp' sh' → Q (.ref Dl) hp' → Heap.SameBut C sh'.heap h9 → FpOk X pins hp' C → Qf (.ref Dl) { sh' with heap := h9 }) :
    wpAny (model X.prog X.w) X.A (comprehension (.ListComp elt [⟨tg, iter, ifs, 0⟩] scope pos) scope X.env pos' (newList []) false (eval iter X.env) none) Qf X.xe s := by
  have hfree : ∀ y ∈ scope.names, y.2 = .free → ∃ c, X.env.cells.lookup y.1 = some c := fun y hy e => by
    rcases ok.free y hy e with k | k
    · exact I.ok.has _ (.inl k)
    · exact I.ok.has _ (.inr k)
  refine comprehension_at (use := none) rfl hs (closure_ok hfree) ok.kind (fun y hy e => by rw [ok.uniq y hy, e])
    (thn (hi.run pins s σ H _ I h) fun xv sh1 hx => thn hx fun itv sh2 h2 => ?_)
  obtain ⟨it, fpl, tnn, J, hp2, e, iv2, Tn, stp2, fq2, q⟩ := h2
  subst e
  refine wpAny_newObj_type (newEnv_comp ?_) (by show 0 ≤ sizeLine; decide)
  generalize hDl : sh2.heap.objs.size = Dl
  have hDn : hp2 Dl = none := iv2.hok.fresh (Nat.le_of_eq hDl)
  obtain ⟨Wm, ⟨m0, w0⟩, turn⟩ := q Dl hDn
  generalize hsh3 : ({ sh2 with heap := sh2.heap.push { cls := .type "list", data := .seq ([] : List Value).toArray } } : Shared) = sh3
  have iv3 : L2.Inv X pins σ (upd hp2 Dl (.lst [])) sh3 := by
    rw [← hsh3]
    refine iv2.laid (t' := sh2.toks) (fun b o e => Heap.get?_push_of_some _ e) (Nat.le_of_eq hDl) ⟨Nat.zero_le _, [], 0, .nil, ?_⟩
    rw [← hDl]
    exact Heap.get?_push_size _ rfl
  have h3 : sh3.heap = sh2.heap.push { cls := .type "list", data := .seq ([] : List Value).toArray } := by rw [← hsh3]
  have szz : ∀ b ∈ fpl, b < sh2.heap.objs.size := fun b hb => by
    obtain ⟨o, e, _⟩ := Tn.obj _ _ stp2 b hb
    exact Heap.lt_size e
  have fq3 : ∀ b ∈ fpl, FpOk X pins (upd hp2 Dl (.lst [])) b ∧ b < sh3.heap.objs.size := fun b hb => by
    have hlt := szz b hb
    refine ⟨⟨?_, (fq2 b hb).2⟩, by rw [h3, Heap.size_push]; exact Nat.lt_succ_of_lt hlt⟩
    rw [upd_ne (by rw [← hDl]; exact Nat.ne_of_lt hlt)]
    exact (fq2 b hb).1
  have stp3 : tnn 0 sh3.heap := Tn.keep _ _ _ stp2 fun b _ o e => by rw [h3]; exact Heap.get?_push_of_some _ e
  have iv4 := block_start iv3 ok hN fq3
  have pgt := hg sh3 (upd hp2 Dl (.lst [])) sh3.heap.objs.size (cellsFrom (sh3.heap.objs.size + 1) scope.names (cloFrom X.env.cells scope.names [])) fpl
  have pts := ht sh3 (upd hp2 Dl (.lst [])) sh3.heap.objs.size (cellsFrom (sh3.heap.objs.size + 1) scope.names (cloFrom X.env.cells scope.names [])) fpl
  have pel := he sh3 (upd hp2 Dl (.lst [])) sh3.heap.objs.size (cellsFrom (sh3.heap.objs.size + 1) scope.names (cloFrom X.env.cells scope.names [])) fpl (xbOf X (compEnvC scope (cellsFrom (sh3.heap.objs.size + 1) scope.names (cloFrom X.env.cells scope.names [])) sh3.heap.objs.size X.env)) (takes_blk hst hf tk hW iv3 fq3 rfl (Nat.le_refl _))
  show codeAny _ _ (.compStart (.ListComp elt [⟨tg, iter, ifs, 0⟩] scope pos) 0 (.ref it) (.ref Dl) (compEnvC scope (cellsFrom (sh3.heap.objs.size + 1) scope.names (cloFrom X.env.cells scope.names [])) sh3.heap.objs.size X.env)) (compEnds (model X.prog X.w) X.A X.xe none Qf (.ref Dl) (compEnvC scope (cellsFrom (sh3.heap.objs.size + 1) scope.names (cloFrom X.env.cells scope.names [])) sh3.heap.objs.size X.env)) { sh3 with heap := pushCells (sh3.heap.push { cls := .type "dict", data := .dict #[] }) scope.names }
  have nfl : ∀ b ∈ fpl, (upd hp2 Dl (.lst [])) b = none := fun b hb => (fq3 b hb).1.1
  generalize hcx : compEnvC scope (cellsFrom (sh3.heap.objs.size + 1) scope.names (cloFrom X.env.cells scope.names [])) sh3.heap.objs.size X.env = cx at iv4 pgt pts pel ⊢
  have cL : cx.locals = sh3.heap.objs.size := by subst hcx; rfl
  generalize hH3 : upd hp2 Dl (.lst []) = hp3 at iv3 iv4 pgt pts pel w0 nfl fq3
  generalize hsh4 : ({ sh3 with heap := pushCells (sh3.heap.push { cls := .type "dict", data := .dict #[] }) scope.names } : Shared) = sh4 at iv4 ⊢
  have stp4 : tnn 0 sh4.heap := Tn.keep _ _ _ stp3 fun b _ o e => by rw [← hsh4]; exact pushCells_keeps _ _ _ _ (Heap.get?_push_of_some _ e)
  have stat : ∀ {σ' : L2.St} {hp' : Hp} {sh' : Shared}, L2.Inv (X.blk sh3 hp3 scope cx fpl) [] σ' hp' sh' → (∀ b ∈ fpl, hp' b = none) → ∀ b ∈ fpl, FpOk (X.blk sh3 hp3 scope cx fpl) [] hp' b := fun {σ' hp' sh'} iv' hn b hb =>
    ⟨hn b hb, (iv'.ok.exf b hb).1, iv'.ok.exfs b hb, .inl hb, fun x c e => (iv'.ok.exf b hb).2 x c e, fun p hp => absurd (show p ∈ ([] : List (Addr × Obj)) ++ [] from hp) (by simp)⟩
  have loop : codeAny (model X.prog X.w) X.A (.compLoop (.ListComp elt [⟨tg, iter, ifs, 0⟩] scope pos) 0 (.ref it) (.ref Dl) cx) (compEnds (model X.prog X.w) X.A X.xe none Qf (.ref Dl) cx) sh4 := by
    refine compLoop_any (fun n sh' => ∃ i hp', L2.Inv (X.blk sh3 hp3 scope cx fpl) [] (wipe σ (own.map (·.2))) hp' sh' ∧ tnn i sh'.heap ∧ (∀ b ∈ fpl, hp' b = none) ∧ Wm i n hp') ?_ m0 ⟨0, hp3, iv4, stp4, nfl, w0⟩
    rintro n sh5 ⟨i, hp5, iv5, stp5, n5, w5⟩
    rcases turn i n hp5 w5 with ⟨stop, qq⟩ | ⟨go, Nx, hNx, step⟩
    · have td := Tn.done (X.blk sh3 hp3 scope cx fpl) rfl rfl rfl hc i [] sh5 _ hp5 (fun _ _ => False) iv5 (stat iv5 n5) stp5 stop
      refine thnF td fun r sh6 ⟨hr, iv6⟩ => ?_
      subst hr
      have iv7 : L2.Inv X pins σ hp5 sh6 := iv3.call' (ch := fpl) iv6.os iv6.base iv6.hok iv6.bare fun b hb => ⟨(fq3 b hb).1.2.2.2.1, (fq3 b hb).1.2.1, (fq3 b hb).1.2.2.2.2.1, (fq3 b hb).1.2.2.2.2.2⟩
      have nC : hp5 sh3.heap.objs.size = none := by
        have z : hp5 cx.locals = none := iv6.free
        rw [cL] at z
        exact z
      obtain ⟨m, hn, _⟩ := iv6.loc
      have hn : sh6.heap.Ns cx.locals m := hn
      refine ⟨m, hn, fun h9 sb => ?_⟩
      rw [cL] at sb
      exact hRR Dl sh3.heap.objs.size sh6 hp5 h9 iv7 qq sb (iv3.fpOk (Nat.le_refl _) nC)
    · have ti := Tn.item (X.blk sh3 hp3 scope cx fpl) rfl rfl rfl hc i [] sh5 _ hp5 (fun _ _ => False) iv5 (stat iv5 n5) stp5 go
      refine thnF ti fun r sh6 ⟨u, hr, h6⟩ => ?_
      subst hr
      refine thnF h6 fun _ sh7 ⟨x, hp7, iv7, r7, y7, stp7, n7⟩ => ?_
      have iv7' := iv7.pinned (stat iv7 n7) (Tn.obj _ _ stp7)
      refine thnF (pgt.run _ sh7 _ hp7 x u _ iv7' r7 (step x hp7 y7)) fun _ sh8 ⟨σ8, hp8, iv8, hw8, qu8⟩ => ?_
      refine thnF (pts.run _ sh8 σ8 hp8 _ iv8 qu8) fun b sh9 ⟨hp9, iv9, qu9⟩ => ?_
      have fin : ∀ {sh' : Shared} {hp' : Hp}, L2.Inv (X.blk sh3 hp3 scope cx fpl) ([] ++ pinsAt fpl sh7.heap) σ8 hp' sh' → Nx hp' → ∃ m, m < n ∧ ∃ i hp', L2.Inv (X.blk sh3 hp3 scope cx fpl) [] (wipe σ (own.map (·.2))) hp' sh' ∧ tnn i sh'.heap ∧ (∀ b ∈ fpl, hp' b = none) ∧ Wm i m hp' := fun {sh' hp'} iv' nx => by
        obtain ⟨m', hm, w'⟩ := hNx hp' nx
        have pin' : ∀ b ∈ fpl, ∀ o, sh7.heap.get? b = some o → sh'.heap.get? b = some o ∧ hp' b = none := fun b hb o e =>
          let z := iv'.pin (b, o) (List.mem_append_right _ (List.mem_append_right _ (mem_pinsAt hb e)))
          ⟨z.1, z.2.1⟩
        have hl : (wipe σ (own.map (·.2))).length = σ8.length := by rw [← hw8, wipe_length]
        refine ⟨m', hm, i + 1, hp', (iv'.unpinned (pins := [])).weak hl (fun j v e => ?_), Tn.keep _ _ _ stp7 fun b hb o e => (pin' b hb o e).1, fun b hb => ?_, w'⟩
        · rw [← hw8] at e
          exact (wipe_some e).1
        · obtain ⟨o, e, _⟩ := Tn.obj _ _ stp7 b hb
          exact (pin' b hb o e).2
      cases b with
      | false =>
        simp only [Bool.false_eq_true, if_false] at qu9 ⊢
        exact fin iv9 qu9
      | true =>
        simp only [if_true] at qu9 ⊢
        refine wpAny_mono (pel.run _ sh9 σ8 hp9 _ (inv_xe iv9) qu9) (fun z sh10 ⟨yv, hp10, iv10, r10, acc, hD10, hz10, nx⟩ => ?_) fun _ _ bad => bad
        exact app_ok (X := X.blk sh3 hp3 scope cx fpl) (inv_ex iv10) hD10 hz10 r10 fun sh11 iv11 => fin iv11 nx
  exact codeAny_compStart_list loop (Tn.self X.A 0 _ _ _ stp4 loop)
theorem pe_lcx {X : Cx} {W : WX} {elt tg iter : Expr} {ifs : List Expr} {scope : Scope} {own : List (Str × Nat)} {pos : Pos} {wi : TI} {g : TG} {tt : TT} {te : TE} (hst : X.stack = X.env :: X.outer) (hf : X.env.frame = some X.env.locals) (tk : Takes X W) (hW : ∀ c d σ σ' H, W c d σ H → W c d σ' H)
    (hc : X.calm = true) (hN : X.N.Nodup) (hi : PI X tg iter wi) (ok : BlkOk X.N X.env.scope scope own)
    (hg : ∀ (s : Shared) (H : Hp) (C : Addr) (cs : List (Str × Addr)) (fp : List Addr), PG (X.blk s H scope (compEnvC scope cs C X.env) fp) tg g)
    (ht : ∀ (s : Shared) (H : Hp) (C : Addr) (cs : List (Str × Addr)) (fp : List Addr), PTs (X.blk s H scope (compEnvC scope cs C X.env) fp) ifs tt)
    (he : ∀ (s : Shared) (H : Hp) (C : Addr) (cs : List (Str × Addr)) (fp : List Addr) (xb : Value → Shared → Prop), Takes ((X.blk s H scope (compEnvC scope cs C X.env) fp).tr [] xb) W → PE ((X.blk s H scope (compEnvC scope cs C X.env) fp).tr [] xb) elt te)
    (hs : ∀ x, foldedSetIterable iter X.env x = pure x := by intro _; rfl) : PE X (.ListComp elt [⟨tg, iter, ifs, 0⟩] scope pos) (tLc wi g tt te (own.map (·.2))) := by
  refine ⟨fun pins s σ H Q I h => ?_⟩
  rw [eval_ListComp]
  refine lcx_core hst hf tk hW hc hN I hi ok hg ht he hs h fun Dl C sh' hp' h9 iv' q sb f => ?_
  obtain ⟨g0, g1, g2, g3, g4, g5⟩ := f
  exact ⟨.ref Dl, hp', iv'.turned (t' := sh'.toks) (fun b o hb e => (sb.2 b hb).trans e) g0 g1 g3 g4 g5, rfl, q⟩
end DL
namespace DL
open PySem L2
/-! ### a comprehension whose items may raise: what it comes to -/
def dLcX (vs : List Nat) (fi : Dv → Res (List D)) (k : D → Dv → Option Dv) (ft : Dv → Res Bool) (fe : Dv → Res D) : Dv → Res D := fun δ => (fi δ).bind fun xs => Res.need (xs.length ≤ big) ((compM (compOne k (fun δ => calmly (ft δ)) fe (wipeD δ vs)) xs).bind fun ys => .ok (.list ys))
theorem compM_split {f : D → Res (List D)} : ∀ (l m : List D), compM f (l ++ m) = (compM f l).bind fun a => (compM f m).bind fun b => .ok (a ++ b)
  | [], m => by
    show compM f m = (compM f m).bind fun b => .ok ([] ++ b)
    cases compM f m <;> rfl
  | x :: l, m => by
    show (f x).bind (fun c => (compM f (l ++ m)).bind fun d => .ok (c ++ d)) = ((f x).bind fun c => (compM f l).bind fun d => .ok (c ++ d)).bind _
    rw [compM_split l m]
    cases f x with
    | exc c => rfl
    | stuck => rfl
    | ok c =>
      rw [Res.ok_bind, Res.ok_bind]
      cases compM f l with
      | exc c => rfl
      | stuck => rfl
      | ok d =>
        rw [Res.ok_bind, Res.ok_bind, Res.ok_bind]
        cases compM f m with
        | exc c => rfl
        | stuck => rfl
        | ok e =>
          rw [Res.ok_bind, Res.ok_bind, Res.ok_bind, List.append_assoc]
theorem take_mid {α : Type} {l : List α} {i : Nat} {x : α} (h : l[i]? = some x) : ∃ r, l = l.take i ++ x :: r := by
  obtain ⟨hi, hx⟩ := List.getElem?_eq_some_iff.mp h
  refine ⟨l.drop (i + 1), ?_⟩
  rw [← hx, ← List.drop_eq_getElem_cons hi, List.take_append_drop]
theorem compM_at {f : D → Res (List D)} {l zs : List D} {i : Nat} {x : D} (hz : compM f (l.take i) = .ok zs) (hx : l[i]? = some x) (hne : compM f l ≠ .stuck) : (∃ a, f x = .ok a) ∨ ∃ c, f x = .exc c ∧ compM f l = .exc c := by
  obtain ⟨r, e⟩ := take_mid hx
  have e2 : compM f l = (compM f (x :: r)).bind fun b => .ok (zs ++ b) := by
    conv => lhs; rw [e]
    rw [compM_split, hz, Res.ok_bind]
  have e3 : compM f (x :: r) = (f x).bind fun a => (compM f r).bind fun b => .ok (a ++ b) := rfl
  cases q : f x with
  | ok a => exact .inl ⟨a, rfl⟩
  | exc c =>
    refine .inr ⟨c, rfl, ?_⟩
    rw [e2, e3, q]
    rfl
  | stuck =>
    refine absurd ?_ hne
    rw [e2, e3, q]
    rfl
theorem lcx_sim {X : Cx} {cl : Nat → Addr} {W : WX} (hW : ∀ c d σ σ' H, W c d σ H → W c d σ' H) {wi : TI} {fi : Dv → Res (List D)} {vs : List Nat} {g : TG} {k : D → Dv → Option Dv} {tt : TT} {ft : Dv → Res Bool} {te : TE} {fe : Dv → Res D}
    (si : SimJ X.K cl W wi fi) (sg : SimK X.K vs g k) (st : SimT X.K cl W0 tt ft) (se : SimE X.K cl W te fe) : SimF X.K cl W (tLc wi g tt te vs) (dLcX vs fi k ft fe) := by
  intro δ σ H Q en po
  show wi σ H _
  refine si δ σ H _ en ?_
  change ((fi δ).bind _).on _ _ at po
  cases r : fi δ with
  | exc c => rw [r] at po; exact po
  | stuck => rw [r] at po; exact po
  | ok xs =>
    rw [r, Res.ok_bind] at po
    intro J H1 s1 w Dl hD
    unfold Res.need at po
    split at po
    · rename_i hz
      generalize hff : compOne k (fun δ => calmly (ft δ)) fe (wipeD δ vs) = ff at po
      have hne : compM ff xs ≠ .stuck := fun z => by rw [z] at po; exact po
      have one_len : ∀ x a, ff x = .ok a → a.length ≤ 1 := fun x a h => by rw [← hff] at h; exact compOne_len h
      obtain ⟨G, Y, wk, hG, hY⟩ := w
      refine lc_it wk (fun i H' => Same H1 H' ∧ ∃ zs acc, compM ff (xs.take i) = .ok zs ∧ H' Dl = some (.lst acc) ∧ immAll zs = true ∧ RpAll X.K H' zs acc) ?_ (fun i H' _ p => hG H' p.1) (fun i x H2 H3 hi p y => ?_) (fun H' p => ?_)
      · refine ⟨same_new hD, [], [], by rw [List.take_zero]; rfl, upd_same, rfl, .nil⟩
      · obtain ⟨p1, zs, acc, hz2, hacc, imz, racc⟩ := p
        obtain ⟨sm, d, hd, rp⟩ := hY i H2 x H3 hi p1 y
        have cases2 := compM_at hz2 hd hne
        have unf : ff d = match k d (wipeD δ vs) with
          | none => .stuck
          | some δ2 => (calmly (ft δ2)).bind fun b => if b = true then (fe δ2).bind fun y => if imm y = true then .ok [y] else .stuck else .ok [] := by rw [← hff]; rfl
        cases hk : k d (wipeD δ vs) with
        | none =>
          rw [unf, hk] at cases2
          rcases cases2 with ⟨_, z⟩ | ⟨_, z, _⟩ <;> cases z
        | some δ2 =>
          rw [hk] at unf
          dsimp only at unf
          have enw : EnvD X.K H3 (wipe σ vs) (wipeD δ vs) := wipeD_env (en.mono (s1.trans (p1.trans sm))) vs
          have base : Same H1 H3 := p1.trans sm
          refine sg H3 (wipe σ vs) (wipeD δ vs) δ2 d x _ enw rp hk fun σ2 en2 w2 => ⟨by rw [w2, wipe_wipe], ?_⟩
          have fin : ∀ (H5 : Hp) (a : List D) (acc' : List V), Same H3 H5 ∨ (∃ H4, Same H3 H4 ∧ H5 = upd H4 Dl (.lst acc')) → ff d = .ok a → H5 Dl = some (.lst acc') → immAll (zs ++ a) = true → RpAll X.K H5 (zs ++ a) acc' →
              Same H1 H5 ∧ ∃ zs acc, compM ff (xs.take (i + 1)) = .ok zs ∧ H5 Dl = some (.lst acc) ∧ immAll zs = true ∧ RpAll X.K H5 zs acc := by
            intro H5 a acc' hs h1 h2 h3 h4
            refine ⟨?_, zs ++ a, acc', ?_, h2, h3, h4⟩
            · rcases hs with hs | ⟨H4, hs, rfl⟩
              · exact base.trans hs
              · intro b o e
                rw [upd_ne (ne_of_none e hD)]
                exact hs b o (base b o e)
            · rw [take_succ_get hd]
              refine compM_app hz2 ?_
              show (ff d).bind _ = _
              rw [h1]
              show Res.ok (a ++ []) = Res.ok a
              rw [List.append_nil]
          refine st δ2 σ2 H3 _ en2 ?_
          cases q : ft δ2 with
          | exc c =>
            rw [unf, q] at cases2
            rcases cases2 with ⟨_, z⟩ | ⟨_, z, _⟩ <;> cases z
          | stuck =>
            rw [unf, q] at cases2
            rcases cases2 with ⟨_, z⟩ | ⟨_, z, _⟩ <;> cases z
          | ok b =>
            rw [q] at unf
            change ff d = if b = true then _ else _ at unf
            intro H4 s4
            cases b with
            | false =>
              show Same H1 H4 ∧ _
              refine fin H4 [] acc (.inl s4) unf (s4 _ _ (sm _ _ hacc)) (by rw [List.append_nil]; exact imz) ?_
              rw [List.append_nil]
              exact RpAll.mono (sm.trans s4) _ _ racc
            | true =>
              rw [if_pos rfl] at unf
              show te σ2 H4 _
              refine se δ2 σ2 H4 _ (en2.mono s4) ?_
              cases q2 : fe δ2 with
              | stuck =>
                rw [unf, q2] at cases2
                rcases cases2 with ⟨_, z⟩ | ⟨_, z, _⟩ <;> cases z
              | exc c =>
                rw [unf, q2] at cases2
                rcases cases2 with ⟨_, z⟩ | ⟨c', z, z2⟩
                · cases z
                · cases z
                  rw [z2] at po
                  intro H5 s5
                  exact hW _ _ σ σ2 _ (po H5 (s1.trans (base.trans (s4.trans s5))))
              | ok y =>
                rw [q2, Res.ok_bind] at unf
                by_cases imy : imm y = true
                · rw [if_pos imy] at unf
                  intro yv H5 s5 ry
                  have s35 := s4.trans s5
                  have hacc5 : H5 Dl = some (.lst acc) := s35 _ _ (sm _ _ hacc)
                  have lz : zs.length ≤ xs.length := Nat.le_trans (compM_len one_len hz2) (by rw [List.length_take]; omega)
                  have la : acc.length < sizeLine := by
                    rw [racc.length]
                    exact big_lt (Nat.le_trans lz hz)
                  refine ⟨acc, hacc5, la, ?_⟩
                  have imall : immAll (zs ++ [y]) = true := by
                    rw [immAll_iff] at imz ⊢
                    intro e he
                    rcases List.mem_append.mp he with he | he
                    · exact imz e he
                    · cases List.mem_singleton.mp he
                      exact imy
                  have box : ∀ a ∈ [Dl], Boxy H5 a := fun a ha => by cases List.mem_singleton.mp ha; exact ⟨_, hacc5, rfl⟩
                  have rall : RpAll X.K H5 (zs ++ [y]) (acc ++ [yv]) := (RpAll.mono (sm.trans s35) _ _ racc).append (.cons ry .nil)
                  have rh := RpAll.hide box _ _ imall rall
                  have eh : hide (upd H5 Dl (.lst (acc ++ [yv]))) [Dl] = hide H5 [Dl] := hide_upd (List.mem_singleton.mpr rfl)
                  rw [← eh] at rh
                  exact fin _ [y] (acc ++ [yv]) (.inr ⟨H5, s35, rfl⟩) unf upd_same imall (RpAll.mono (hide_same _ _) _ _ rh)
                · rw [if_neg imy] at unf
                  rw [unf] at cases2
                  rcases cases2 with ⟨_, z⟩ | ⟨_, z, _⟩ <;> cases z
      · obtain ⟨p1, zs, acc, hz2, hacc, imz, racc⟩ := p
        rw [List.take_length] at hz2
        rw [hz2] at po
        exact po _ H' (s1.trans p1) (rpl hacc racc) (fresh_of (s1.free hD))
    · exact po.elim
section
variable {X : Cx} {cl : Nat → Addr} {W : WX} {elt tg iter : Expr} {ifs : List Expr} {scope : Scope} {own : List (Str × Nat)} {pos : Pos} {wi : TI} {fi : Dv → Res (List D)} {k : D → Dv → Option Dv} {ft : Dv → Res Bool} {fe : Dv → Res D}
theorem q_lcx (hst : X.stack = X.env :: X.outer) (hf : X.env.frame = some X.env.locals) (tk : Takes X W) (hW : ∀ c d σ σ' H, W c d σ H → W c d σ' H) (hc : X.calm = true) (hN : X.N.Nodup) (hi : QJ X cl W tg iter wi fi) (ok : BlkOk X.N X.env.scope scope own)
    (hg : ∀ (s : Shared) (H : Hp) (C : Addr) (cs : List (Str × Addr)) (fp : List Addr), ∃ g, QK (X.blk s H scope (compEnvC scope cs C X.env) fp) (own.map (·.2)) tg g k)
    (ht : ∀ (s : Shared) (H : Hp) (C : Addr) (cs : List (Str × Addr)) (fp : List Addr), ∃ tt, QTs (X.blk s H scope (compEnvC scope cs C X.env) fp) cl W0 ifs tt ft)
    (he : ∀ (s : Shared) (H : Hp) (C : Addr) (cs : List (Str × Addr)) (fp : List Addr) (xb : Value → Shared → Prop), Takes ((X.blk s H scope (compEnvC scope cs C X.env) fp).tr [] xb) W → ∃ te, QE ((X.blk s H scope (compEnvC scope cs C X.env) fp).tr [] xb) cl W elt te fe) (hs : ∀ x, foldedSetIterable iter X.env x = pure x := by intro _; rfl) :
    QF X cl W (.ListComp elt [⟨tg, iter, ifs, 0⟩] scope pos) (tLc wi (canG X.K (own.map (·.2)) k) (canT X.K cl W0 ft) (canE X.K cl W fe) (own.map (·.2))) (dLcX (own.map (·.2)) fi k ft fe) := by
  have hg' : ∀ (s : Shared) (H : Hp) (C : Addr) (cs : List (Str × Addr)) (fp : List Addr), QK (X.blk s H scope (compEnvC scope cs C X.env) fp) (own.map (·.2)) tg (canG X.K (own.map (·.2)) k) k := fun s H C cs fp => by
    obtain ⟨_, h⟩ := hg s H C cs fp
    exact h.can
  have ht' : ∀ (s : Shared) (H : Hp) (C : Addr) (cs : List (Str × Addr)) (fp : List Addr), QTs (X.blk s H scope (compEnvC scope cs C X.env) fp) cl W0 ifs (canT X.K cl W0 ft) ft := fun s H C cs fp => by
    obtain ⟨_, h⟩ := ht s H C cs fp
    exact h.can
  refine ⟨pe_lcx hst hf tk hW hc hN hi.pi ok (fun s H C cs fp => (hg' s H C cs fp).pg) (fun s H C cs fp => (ht' s H C cs fp).pe) (fun s H C cs fp xb tkb => ?_) hs, ?_⟩
  · obtain ⟨_, h⟩ := he s H C cs fp xb tkb
    exact h.can.pe
  have s0 : Shared := X.s_0
  exact lcx_sim hW hi.sim (hg' s0 X.H_0 0 [] []).sim (ht' s0 X.H_0 0 [] []).sim fun δ _ _ _ en po => ⟨δ, en, po⟩
end
section
variable {vs : List Nat} {fi : Dv → Res (List D)} {k : D → Dv → Option Dv} {ft : Dv → Res Bool} {fe : Dv → Res D} {δ : Dv}
theorem compOne_calm {δ : Dv} {x : D} {a : List D} (h : compOne k ft fe δ x = .ok a) : compOne k (fun δ => calmly (ft δ)) fe δ x = .ok a := by
  unfold compOne at h ⊢
  cases e : k x δ with
  | none => rw [e] at h; cases h
  | some δ2 =>
    rw [e] at h
    dsimp only at h ⊢
    cases e2 : ft δ2 with
    | ok b => rw [e2] at h; exact h
    | exc c => rw [e2] at h; cases h
    | stuck => rw [e2] at h; cases h
theorem lcx_map {α : Type} (enc : α → D) (g : α → D) (l : List α) (hi : fi δ = .ok (l.map enc)) (hl : l.length ≤ big) (hs : ∀ a ∈ l, compOne k ft fe (wipeD δ vs) (enc a) = .ok [g a]) : dLcX vs fi k ft fe δ = .ok (.list (l.map g)) := by
  have z := lc_map (fi := fi) (k := k) (ft := fun δ => calmly (ft δ)) (fe := fe) (δ := δ) (vs := vs) enc g l hi hl fun a ha => compOne_calm (hs a ha)
  unfold dLc at z
  unfold dLcX
  rw [hi, Res.ok_bind, Res.need_pos (by rw [List.length_map]; exact hl)] at z ⊢
  cases q : compM (compOne k (fun δ => calmly (ft δ)) fe (wipeD δ vs)) (l.map enc) with
  | ok ys => rw [q] at z; exact z
  | exc c => rw [q] at z; cases z
  | stuck => rw [q] at z; cases z
theorem lcx_exc {α : Type} {c : Nat} (enc : α → D) (g : α → D) (l r : List α) (b : α) (hi : fi δ = .ok ((l ++ b :: r).map enc)) (hl : (l ++ b :: r).length ≤ big) (hs : ∀ a ∈ l, compOne k ft fe (wipeD δ vs) (enc a) = .ok [g a]) (hb : compOne k (fun δ => calmly (ft δ)) fe (wipeD δ vs) (enc b) = .exc c) : dLcX vs fi k ft fe δ = .exc c := by
  unfold dLcX
  rw [hi, Res.ok_bind, Res.need_pos (by rw [List.length_map]; exact hl), List.map_append, compM_split, compM_fm enc (fun a => [g a]) l fun a ha => compOne_calm (hs a ha), Res.ok_bind, List.map_cons]
  unfold compM
  rw [hb]
  rfl
end
end DL
namespace DL
open PySem L2
/-! ### zip of two texts -/
/-- the texts x and y, their signs in new pairs -/
def ItZS (x y : Str) : It :=
  ⟨fun i _ => i < x.cps.size ∧ i < y.cps.size,
    fun i H v H2 => ∃ T c d, v = .ref T ∧ H T = none ∧ x.cps[i]? = some c ∧ y.cps[i]? = some d ∧ H2 = upd H T (.tup [.str ⟨#[c]⟩, .str ⟨#[d]⟩]),
    fun i _ => x.cps.size ≤ i ∨ y.cps.size ≤ i⟩
theorem turn_zipS {P : Program} {w : World} {K : Fg} {elts : List Expr} {kk : Nat} {tpos : Pos} (x y : Str) (tx ty : Tok) {z TI TO i1 i2 : Addr} (D : ZipSep2 z TI TO i1 i2 [i1] [i2]) :
    Turn P w K (.Tuple elts kk tpos) (ItZS x y) [z, TI, TO, i1, i2] z (fun i h => (i ≤ x.cps.size ∧ i ≤ y.cps.size) ∧ IsZip h z TI TO .none ∧ IsTupOf2 h TI (.ref i1) (.ref i2) ∧ (∃ a b, IsTupOf2 h TO a b) ∧ h.IsStrIter i1 (strIterType x) x tx i ∧ h.IsStrIter i2 (strIterType y) y ty i) where
  mem := by simp
  obj := fun i h st c hc => by
    obtain ⟨_, hz, hTI, ⟨a, b, hTO⟩, ⟨o1, e1, _, d1⟩, ⟨o2, e2, _, d2⟩⟩ := st
    have e3 : c = z ∨ c = TI ∨ c = TO ∨ c = i1 ∨ c = i2 := by simpa using hc
    rcases e3 with q | q | q | q | q
    · rw [q]; exact ⟨_, hz, fun v q => nomatch q⟩
    · rw [q]; exact ⟨_, hTI, fun v q => nomatch q⟩
    · rw [q]; exact ⟨_, hTO, fun v q => nomatch q⟩
    · rw [q]; exact ⟨o1, e1, fun v q => by rw [d1] at q; cases q⟩
    · rw [q]; exact ⟨o2, e2, fun v q => by rw [d2] at q; cases q⟩
  keep := fun i h h2 st k => by
    obtain ⟨hl, hz, hTI, ⟨a, b, hTO⟩, ⟨o1, e1, c1⟩, ⟨o2, e2, c2⟩⟩ := st
    exact ⟨hl, k z (by simp) _ hz, k TI (by simp) _ hTI, ⟨a, b, k TO (by simp) _ hTO⟩, ⟨o1, k i1 (by simp) o1 e1, c1⟩, ⟨o2, k i2 (by simp) o2 e2, c2⟩⟩
  item := by
    intro X hP hw hK hc i pins s σ H E I hf st hg
    subst hP hw hK
    obtain ⟨_, hz, hTI, ⟨a0, b0, hTO⟩, h1, h2⟩ := st
    have hzl : z < s.heap.objs.size := Heap.lt_size hz
    refine wpAny_pyNext_zipD2_item D (Draws.text (A := X.A.in1) (I.ok.hd hc) i1 x tx) (Draws.text (A := X.A.in1) (I.ok.hd hc) i2 y ty) hz hTI hTO h1 h2 hg.1 hg.2 fun v1 v2 h3 tk p1 p2 z3 TO3 h13 h23 hT hsz hk => ?_
    obtain ⟨c, u, hcx, rfl⟩ := p1
    obtain ⟨d, u2, hdy, rfl⟩ := p2
    refine ⟨_, rfl, wpAny_letOwnedTupleGo_zip (s := { s with heap := h3, toks := tk }) z3 fun h4 z4 sb => ?_⟩
    have hT2 : h4.get? s.heap.objs.size = some { cls := .type "tuple", data := .seq #[.str ⟨#[c]⟩ u, .str ⟨#[d]⟩ u2] } := (sb.2 _ (Nat.ne_of_gt hzl)).trans hT
    have new : ObjOk X.prog X.w (upd H s.heap.objs.size (.tup [.str ⟨#[c]⟩, .str ⟨#[d]⟩])) h4 s.heap.objs.size (.tup [.str ⟨#[c]⟩, .str ⟨#[d]⟩]) :=
      ⟨by show 2 ≤ sizeLine; decide, [.str ⟨#[c]⟩ u, .str ⟨#[d]⟩ u2], .cons ⟨_, rfl⟩ (.cons ⟨_, rfl⟩ .nil), ⟨_, hT2, rfl, _, rfl⟩⟩
    have I1 : Inv X pins σ (upd H s.heap.objs.size (.tup [.str ⟨#[c]⟩, .str ⟨#[d]⟩])) { s with heap := h4, toks := tk } :=
      I.turnedNew (ch := [z, TI, TO, i1, i2]) (fun b o hb q => (sb.2 b (fun e => hb (by simp [e]))).trans (hk b o (fun e => hb (by simp [e])) (fun e => hb (by simp [e])) (fun e => hb (by simp [e])) (fun e => hb (by simp [e])) q)) hf (Nat.le_refl _) new
    refine ⟨.ref s.heap.objs.size, _, I1, rfl, ⟨_, c, d, rfl, I.hok.fresh (Nat.le_refl _), hcx, hdy, rfl⟩, ⟨hg, z4, ?_, ⟨.str ⟨#[c]⟩ u, .str ⟨#[d]⟩ u2, ?_⟩, ?_, ?_⟩, fun b hb => ?_⟩
    · exact (sb.2 _ D.TIz).trans (hk _ _ D.TIz D.TITO D.TIi1 D.TIi2 hTI)
    · exact (sb.2 _ D.TOz).trans TO3
    · obtain ⟨o, q, r⟩ := h13
      exact ⟨o, (sb.2 _ (Ne.symm D.zi1)).trans q, r⟩
    · obtain ⟨o, q, r⟩ := h23
      exact ⟨o, (sb.2 _ (Ne.symm D.zi2)).trans q, r⟩
    · have hlt : b < s.heap.objs.size := by
        have e3 : b = z ∨ b = TI ∨ b = TO ∨ b = i1 ∨ b = i2 := by simpa using hb
        rcases e3 with q | q | q | q | q
        · rw [q]; exact hzl
        · rw [q]; exact Heap.lt_size hTI
        · rw [q]; exact Heap.lt_size hTO
        · rw [q]; obtain ⟨_, e1, _⟩ := h1; exact Heap.lt_size e1
        · rw [q]; obtain ⟨_, e2, _⟩ := h2; exact Heap.lt_size e2
      rw [upd_ne (Nat.ne_of_lt hlt)]
      exact (hf b hb).1
  done := by
    intro X hP hw hK hc i pins s σ H E I hf st hg
    subst hP hw hK
    obtain ⟨⟨l1, l2⟩, hz, hTI, ⟨a0, b0, hTO⟩, h1, h2⟩ := st
    have he : i = x.cps.size ∨ i = y.cps.size := by
      rcases hg with q | q
      · exact .inl (Nat.le_antisymm l1 q)
      · exact .inr (Nat.le_antisymm l2 q)
    exact wpAny_pyNext_zipD2_end D (Draws.text (A := X.A.in1) (I.ok.hd hc) i1 x tx) (Draws.text (A := X.A.in1) (I.ok.hd hc) i2 y ty) hz hTI hTO h1 h2 l1 l2 he fun h3 tk hk => ⟨rfl, I.turnedL (t' := tk) (ch := [z, TI, TO, i1, i2]) (fun b o hb q =>
      hk b o (fun e => hb (by simp [e])) (fun e => hb (by simp [e])) (fun e => hb (by simp [e])) (fun e => hb (by simp [e])) q) hf⟩
  self := fun A i s Q E st h => wpAny_pyIter_zip st.2.1 h
theorem zipSep5 (n : Nat) : ZipSep2 (n + 4) (n + 2) (n + 3) n (n + 1) [n] [n + 1] where
  TIz := by
    show ¬ (n + 2 : Nat) = n + 4
    omega
  TOz := by
    show ¬ (n + 3 : Nat) = n + 4
    omega
  TITO := by
    show ¬ (n + 2 : Nat) = n + 3
    omega
  TIi1 := by
    show ¬ (n + 2 : Nat) = n
    omega
  mem1 := by simp
  zf1 := by simp
  Tf1 := by simp
  TIi2 := by
    show ¬ (n + 2 : Nat) = n + 1
    omega
  mem2 := by simp
  zf2 := by simp
  Tf2 := by simp
  sep1_2 := by simp
  sep2_1 := by simp
def iZipSA (ta : TA) : TI := fun σ H R => ta σ H fun vs H1 => ∃ x y, vs = [.str x, .str y] ∧ R (ItZS x y) H1
theorem pi_zipSA {X : Cx} {e e2 : Expr} {ta : TA} {p pos tpos : Pos} {elts : List Expr} {kk : Nat} (hg : Gl X "zip") (hm : X.mg "zip" = none) (ha : PA X [e, e2] ta)
    (hs : starEach [e, e2] X.env = (false, eval e X.env) :: starEach [e2] X.env := by rfl) (hpl : (backTo pos (starEach [e2] X.env)).any (·.1) = false := by rfl) :
    PI X (.Tuple elts kk tpos) (.Call (.Name "zip" p) [e, e2] [] pos) (iZipSA ta) := by
  refine ⟨fun pins s σ H R I h => ?_⟩
  refine PyProof.Rows.Call_ (ld_blt I hg hm PyProof.Rows.boot_zip (PyProof.Rows.callWith_type1 (thn (ha.run pos pins s σ H _ I h) fun us s1 ⟨vs, H1, I1, r1, q1⟩ => ?_) hs hpl))
  obtain ⟨x, y, rfl, q⟩ := q1
  cases r1 with
  | cons r rr =>
    cases rr with
    | cons r2 rr =>
      cases rr
      obtain ⟨t, rfl⟩ := r
      obtain ⟨t2, rfl⟩ := r2
      have low : ∀ b, b ∈ [s1.heap.objs.size + 4, s1.heap.objs.size + 2, s1.heap.objs.size + 3, s1.heap.objs.size, s1.heap.objs.size + 1] → s1.heap.objs.size ≤ b := fun b hb => by
        have e3 : b = s1.heap.objs.size + 4 ∨ b = s1.heap.objs.size + 2 ∨ b = s1.heap.objs.size + 3 ∨ b = s1.heap.objs.size ∨ b = s1.heap.objs.size + 1 := by simpa using hb
        rcases e3 with z | z | z | z | z
        · rw [z]; exact Nat.le_add_right _ _
        · rw [z]; exact Nat.le_add_right _ _
        · rw [z]; exact Nat.le_add_right _ _
        · rw [z]; exact Nat.le_refl _
        · rw [z]; exact Nat.le_add_right _ _
      refine zip_begins2 (begins_text x t) (begins_text y t2) trivial trivial fun h2 hz hTI hTO h1 h22 hsz hk => wpAny_pyIter_zip hz ?_
      exact ⟨s1.heap.objs.size + 4, [s1.heap.objs.size + 4, s1.heap.objs.size + 2, s1.heap.objs.size + 3, s1.heap.objs.size, s1.heap.objs.size + 1], _, _, H1, rfl, I1.kept (t' := s1.toks) hk, turn_zipS x y t t2 (zipSep5 s1.heap.objs.size),
        ⟨⟨Nat.zero_le _, Nat.zero_le _⟩, hz, hTI, ⟨_, _, hTO⟩, ⟨_, h1, rfl, rfl⟩, ⟨_, h22, rfl, rfl⟩⟩, fun b hb => I1.fpOk (low b hb) (I1.hok.fresh (low b hb)), q⟩
theorem walkD_zS {K : Fg} {B : Hp} (l m : List Nat) : WalkD K B (ItZS (S l) (S m)) (zipD (l.map fun c => .str [c]) (m.map fun c => .str [c])) := by
  have e : min (S l).cps.size (S m).cps.size = (zipD (l.map fun c => (D.str [c])) (m.map fun c => (D.str [c]))).length := by rw [zipD_len]; simp [S]
  refine ⟨fun _ => True, fun i H v H2 => ∃ T c d, v = .ref T ∧ H T = none ∧ (S l).cps[i]? = some c ∧ (S m).cps[i]? = some d ∧ H2 = upd H T (.tup [.str ⟨#[c]⟩, .str ⟨#[d]⟩]), ⟨fun i H hi _ => ?_, fun H _ => ?_, fun i H x H2 hi _ y => y⟩, fun _ _ => trivial, fun i H x H2 hi s y => ?_⟩
  · show i < (S l).cps.size ∧ i < (S m).cps.size
    rw [← e] at hi
    omega
  · show (S l).cps.size ≤ _ ∨ (S m).cps.size ≤ _
    rw [← e]
    omega
  · obtain ⟨T, c, d, rfl, hT, hc, hd, rfl⟩ := y
    have e2 : l[i]? = some c := by simpa [S] using hc
    have e3 : m[i]? = some d := by simpa [S] using hd
    refine ⟨same_new hT, _, zipD_get (a := .str [c]) (b := .str [d]) (by rw [List.getElem?_map, e2]; rfl) (by rw [List.getElem?_map, e3]; rfl), ?_⟩
    refine rpt upd_same ?_
    exact .cons (by unfold Rp; rfl) (.cons (by unfold Rp; rfl) .nil)
section
variable {X : Cx} {cl : Nat → Addr} {W : WX} {e e2 : Expr} {ta : TA} {gs : Dv → Res (List D)} {p pos tpos : Pos} {elts : List Expr} {kk : Nat}
def iZipS : List D → Res (List D)
  | [.str l, .str m] => .ok (zipD (l.map fun c => .str [c]) (m.map fun c => .str [c]))
  | _ => .stuck
theorem i_zipS (hm : X.mg "zip" = none) (ha : QA X cl W [e, e2] ta gs) (hg : Gl X "zip" := by rfl) (hs : starEach [e, e2] X.env = (false, eval e X.env) :: starEach [e2] X.env := by rfl) (hpl : (backTo pos (starEach [e2] X.env)).any (·.1) = false := by rfl) :
    QI X cl W (.Tuple elts kk tpos) (.Call (.Name "zip" p) [e, e2] [] pos) (iZipSA ta) (fun δ => (gs δ).bind iZipS) := by
  refine ⟨pi_zipSA hg hm ha.pe hs hpl, fun δ σ H R en po => ?_⟩
  show ta σ H _
  refine ha.sim δ σ H _ en ?_
  change ((gs δ).bind iZipS).on _ _ at po
  cases r : gs δ with
  | exc c => rw [r] at po; exact po
  | stuck => rw [r] at po; exact po
  | ok ds =>
    rw [r, Res.ok_bind] at po
    intro vs H1 s rp
    unfold iZipS at po
    split at po
    · obtain ⟨v, w, rfl, hv, hw⟩ := rp.two
      obtain rfl := rp_str hv
      obtain rfl := rp_str hw
      exact ⟨_, _, rfl, po _ H1 s fun M _ => walkD_zS _ _⟩
    · exact po.elim
end
end DL
namespace DL
open PySem L2
/-! ### sorted(numbers, reverse=True); enumerate of a new list, in a for -/
def numsD : List D → Option (List Int)
  | [] => some []
  | .int i :: l => (numsD l).map (i :: ·)
  | _ => none
theorem numsD_map : ∀ ns : List Int, numsD (ns.map D.int) = some ns
  | [] => rfl
  | i :: ns => by
    rw [List.map_cons, numsD, numsD_map ns]
    rfl
theorem numsD_eq : ∀ {l : List D} {ns : List Int}, numsD l = some ns → l = ns.map D.int
  | [], ns, h => by
    cases h
    rfl
  | d :: l, ns, h => by
    cases d with
    | int i =>
      rw [numsD] at h
      cases e : numsD l with
      | none => rw [e] at h; cases h
      | some ms =>
        rw [e] at h
        cases h
        rw [numsD_eq e]
        rfl
    | _ => cases h
theorem rp_ints {K : Fg} {H : Hp} : ∀ {ns : List Int} {xs : List V}, RpAll K H (ns.map D.int) xs → xs = ns.map V.int
  | [], xs, h => by
    unfold RpAll at h
    exact h
  | i :: ns, xs, h => by
    unfold RpAll at h
    obtain ⟨v, r, rfl, h1, h2⟩ := h
    rw [rp_ints h2, rp_int h1]
    rfl
def sortDn (l : List Int) : List Int := l.mergeSort fun a b => decide (b ≤ a)
theorem sortDn_perm (l : List Int) : (sortDn l).Perm l := List.mergeSort_perm _ _
theorem sortDn_dn (l : List Int) : (sortDn l).Pairwise fun p q => p ≥ q := by
  have := List.pairwise_mergeSort (le := fun a b : Int => decide (b ≤ a)) (fun a b c h1 h2 => by simp at *; omega) (fun a b => by simp; omega) l
  exact this.imp fun h => by simpa using h
theorem sortDn_eq {ps qs : List Int} (h : ps.Perm qs) (hd : ps.Pairwise fun p q => p ≥ q) : ps = sortDn qs :=
  (h.trans (sortDn_perm qs).symm).eq_of_pairwise (fun a b _ _ h1 h2 => by omega) hd (sortDn_dn qs)
def cSortRev : D → Res D
  | .list l => match numsD l with
    | some ns => .ok (.list ((sortDn ns).map D.int))
    | none => .stuck
  | _ => .stuck
theorem rpAll_ints {K : Fg} {H : Hp} : ∀ ns : List Int, RpAll K H (ns.map D.int) (ns.map V.int)
  | [] => .nil
  | i :: ns => .cons (rpi _) (rpAll_ints ns)
section
variable {X : Cx} {cl : Nat → Addr} {W : WX} {e : Expr} {te : TE} {f : Dv → Res D} {p pos kp bp tpos : Pos} {elts : List Expr} {kk : Nat} {jj : Nat}
theorem q_sortRev (hm : X.mg "sorted" = none) (he : QE X cl W e te f) (hg : Gl X "sorted" := by rfl)
    (hs : starEach [e] X.env = [(false, eval e X.env)] := by rfl) (h1 : backTo pos (starEach [e] X.env) = (false, eval e X.env) :: backTo pos (starEach [] X.env) := by rfl) (hpl : (backTo pos (starEach [e] X.env)).any (·.1) = false := by rfl) :
    QF X cl W (.Call (.Name "sorted" p) [e] [⟨some (Str.ofString "reverse"), .Constant (.bool true) jj bp, kp⟩] pos) (tCKw (rSortedKw X.K true [.bl true]) (tCons te tNil) (tCons (tC (.bl true)) tNil)) (fun δ => (f δ).bind cSortRev) := by
  refine ⟨pe_callBK cr_sortedRev hg hm PyProof.Rows.boot_sorted (pa_cons he.pe pa_nil hs) (pk_cons pe_bl pk_nil) (by decide) (by decide) h1 hpl, fun δ σ H Q en po => ?_⟩
  show te σ H _
  refine he.sim δ σ H _ en ?_
  change ((f δ).bind cSortRev).on _ _ at po
  cases r : f δ with
  | exc c => rw [r] at po; exact po
  | stuck => rw [r] at po; exact po
  | ok d =>
    rw [r, Res.ok_bind] at po
    intro v H1 s rp
    cases d with
    | list l =>
      unfold cSortRev at po
      cases z : numsD l with
      | none => simp only [z] at po; exact po.elim
      | some ns =>
        simp only [z] at po
        obtain rfl := numsD_eq z
        obtain ⟨a, xs, rfl, ha, hx⟩ := rp_list rp
        obtain rfl := rp_ints hx
        refine ⟨a, ns, rfl, rfl, Or.inl (Or.inl ha), fun ns2 q pm od hq => ?_⟩
        have e2 : ns2 = sortDn ns := sortDn_eq pm od
        subst e2
        have s2 := same_new (o := .lst ((sortDn ns).map V.int)) hq
        exact po _ _ (s.trans s2) (rpl upd_same (rpAll_ints _)) (fresh_of (s.free hq))
    | _ => exact po.elim
/-- enumerate in a for, of an expression that is new -/
def iEnF : D → Res (List D)
  | .str l => .ok (numD (l.map fun c => .str [c]))
  | .list l => Res.need (immAll l = true) (.ok (numD l))
  | _ => .stuck
theorem i_enumF (hm : X.mg "enumerate" = none) (he : QF X cl W e te f) (hg : Gl X "enumerate" := by rfl) (hs : starEach [e] X.env = [(false, eval e X.env)] := by rfl) :
    QI X cl W (.Tuple elts kk tpos) (.Call (.Name "enumerate" p) [e] [] pos) (iEnumA X.K (tCons te tNil)) (fun δ => (f δ).bind iEnF) := by
  refine ⟨pi_enumA hg hm (pa_cons he.pe pa_nil hs) hs, fun δ σ H R en po => ?_⟩
  show te σ H _
  refine he.sim δ σ H _ en ?_
  change ((f δ).bind iEnF).on _ _ at po
  cases r : f δ with
  | exc c => rw [r] at po; exact po
  | stuck => rw [r] at po; exact po
  | ok d =>
    rw [r, Res.ok_bind] at po
    intro v H1 s rp fr
    cases d with
    | list l =>
      obtain ⟨im, po⟩ := need_on po
      obtain ⟨a, xs, rfl, ha, hx⟩ := rp_list rp
      obtain ⟨p, hp, hn⟩ := fr rfl
      cases hp
      refine .inl ⟨a, xs, rfl, Or.inl (Or.inl ha), po _ H1 s fun M bM => ?_⟩
      have na : a ∉ M := fun hm => by
        exact (bM a hm).nn hn
      exact walkD_eL (Or.inl (Or.inl (by rw [hide_ne na]; exact ha))) (RpAll.hide (fun b hb => (bM b hb).mono s) l xs im hx)
    | str l =>
      obtain rfl := rp_str rp
      exact .inr ⟨_, rfl, po _ H1 s fun M _ => walkD_eS _⟩
    | _ => exact po.elim
end
end DL
namespace DL
open PySem L2
/-! ### a text times a number -/
def repN (l : List Nat) (n : Nat) : List Nat := (List.replicate n l).flatten
def rRepS : R2 := fun x y H Q => ∃ (l : List Nat) (k : Int), x = .str (S l) ∧ y = .int k ∧ 0 ≤ k ∧ k.natAbs ≤ 1000 ∧ l.length ≤ 1000 ∧ Q (.str (S (repN l k.toNat))) H
theorem fold_rep (l : List Nat) : ∀ (k : Nat) (acc : List Nat), List.foldl (fun x1 x2 => x1 ++ x2) acc.toArray (List.replicate k l.toArray) = (acc ++ repN l k).toArray
  | 0, acc => by simp [repN]
  | k + 1, acc => by
    rw [List.replicate_succ, List.foldl_cons]
    have e : acc.toArray ++ l.toArray = (acc ++ l).toArray := by simp
    have e2 : (acc ++ l) ++ repN l k = acc ++ repN l (k + 1) := by
      unfold repN
      rw [List.replicate_succ, List.flatten_cons, List.append_assoc]
    rw [e, fold_rep l k (acc ++ l), e2]
theorem repN_len (l : List Nat) (n : Nat) : (repN l n).length = n * l.length := by
  unfold repN
  induction n with
  | zero => simp
  | succ n ih => rw [List.replicate_succ, List.flatten_cons, List.length_append, ih, Nat.succ_mul]; omega
theorem op_repS {X : Cx} : OpR X (binaryOp .Mult) rRepS := by
  intro pins s σ H x y v u Q I rx ry h
  obtain ⟨l, k, rfl, rfl, h0, h1, h2, q⟩ := h
  obtain ⟨t, rfl⟩ := rx
  obtain ⟨t2, rfl⟩ := ry
  have hl : (S l).length = l.length := by simp [S, Str.length]
  refine P.mul_str ?_ (fun _ _ => ?_) (fun _ _ => ?_) ?_
  · have a1 : ¬ k < -(2 ^ 63 : Int) := by omega
    have a2 : ¬ k ≥ 2 ^ 63 := by omega
    rw [decide_eq_false a1, decide_eq_false a2]
    rfl
  · rename_i c1 _
    have hk : 0 < k := by omega
    have h3 : ((S l).length : Int) ≤ (2 ^ 63 - 1) / k := by
      rw [Int.le_ediv_iff_mul_le hk, hl]
      have h4 : (l.length : Int) * k ≤ 1000 * 1000 := Int.mul_le_mul (by omega) (by omega) (by omega) (by omega)
      omega
    omega
  · unfold Builtin.Str.tooLong
    have h3 : l.length * k.toNat ≤ big := Nat.le_trans (Nat.mul_le_mul h2 (show k.toNat ≤ 1000 by omega)) (by decide)
    have h4 := big_le h3
    rw [hl]
    exact decide_eq_false (by omega)
  · by_cases c1 : k < 1
    · rw [if_pos c1]
      have k0 : k = 0 := by omega
      subst k0
      exact ⟨by decide, .str (S (repN l 0)), H, I.tok _, ⟨_, rfl⟩, q⟩
    · rw [if_neg c1]
      by_cases c2 : (k == 1 || (S l).length == 0) = true
      · rw [if_pos c2]
        have e : repN l k.toNat = l := by
          rw [Bool.or_eq_true] at c2
          rcases c2 with c | c
          · have : k = 1 := by simpa using c
            subst this
            simp [repN]
          · have : l = [] := by
              rw [hl] at c
              simpa using c
            subst this
            simp [repN]
        rw [e] at q
        exact ⟨.str (S l), H, I, ⟨t, rfl⟩, q⟩
      · rw [if_neg c2]
        have e : (⟨List.foldl (fun x1 x2 => x1 ++ x2) #[] (List.replicate k.toNat (S l).cps)⟩ : Str) = S (repN l k.toNat) := by
          have := fold_rep l k.toNat []
          rw [List.nil_append] at this
          show Str.mk _ = Str.mk _
          exact congrArg Str.mk this
        rw [e]
        refine ⟨?_, .str (S (repN l k.toNat)), H, I.tok _, ⟨_, rfl⟩, q⟩
        have h3 : k.toNat * l.length ≤ big := Nat.le_trans (Nat.mul_le_mul (show k.toNat ≤ 1000 by omega) h2) (by decide)
        have h4 := big_le h3
        show (S (repN l k.toNat)).length ≤ _
        have h5 : (S (repN l k.toNat)).length = (repN l k.toNat).length := by simp [S, Str.length]
        rw [h5, repN_len]
        exact h4
def oMulS : D → D → Res D
  | .str l, .int k => Res.need (0 ≤ k ∧ k.natAbs ≤ 1000 ∧ l.length ≤ 1000) (.ok (.str (repN l k.toNat)))
  | _, _ => .stuck
theorem oMulS_ne (a b : D) : noExc (oMulS a b) := by
  unfold oMulS
  split
  · exact need_noExc ok_noExc
  · exact stuck_noExc
section
variable {K : Fg} {cl : Nat → Addr}
theorem sim_mulS : SimR K cl rRepS oMulS := by
  intro x y a b σ H Q ra rb po
  unfold oMulS at po
  split at po
  · obtain rfl := rp_str ra
    obtain rfl := rp_int rb
    obtain ⟨⟨h0, h1, h2⟩, po⟩ := need_on po
    exact ⟨_, _, rfl, rfl, h0, h1, h2, po _ H (Same.refl H) (by unfold Rp; rfl) (fresh_no rfl)⟩
  · exact po.elim
end
theorem q_mulS {X : Cx} {cl : Nat → Addr} {W : WX} {a b : Expr} {pos : Pos} {ta tb : TE} {f h : Dv → Res D} (ha : QE X cl W a ta f) (hb : QE X cl W b tb h) : QF X cl W (.BinOp a .Mult b pos) (tOp rRepS ta tb) (d2 oMulS f h) := q_op op_repS sim_mulS oMulS_ne ha hb
end DL
namespace DL
open PySem L2
/-! ### items of an own list as targets -/
theorem upd_other {H : Hp} {a b : Addr} {o : HO} (h : b ≠ a) : upd H a o b = H b := upd_ne h
mutual
theorem Rp.updL {K : Fg} {H : Hp} {a : Addr} {xs ys : List V} (ha : H a = some (.lst xs)) : ∀ (d : D) (v : V), imm d = true → Rp K H d v → Rp K (upd H a (.lst ys)) d v
  | .none, _, _, h => by unfold Rp at h ⊢; exact h
  | .bool _, _, _, h => by unfold Rp at h ⊢; exact h
  | .int _, _, _, h => by unfold Rp at h ⊢; exact h
  | .str _, _, _, h => by unfold Rp at h ⊢; exact h
  | .list l, _, i, _ => by unfold imm at i; cases i
  | .tuple l, _, i, h => by
    unfold imm at i
    unfold Rp at h ⊢
    obtain ⟨b, zs, hv, hb, hx⟩ := h
    have ne : b ≠ a := fun z => by rw [z, ha] at hb; cases hb
    exact ⟨b, zs, hv, by rw [upd_ne ne]; exact hb, RpAll.updL ha l zs i hx⟩
  | .dicK ks vs, _, i, _ => by unfold imm at i; cases i
  | .dicT ks vs, _, i, _ => by unfold imm at i; cases i
  | .scr ns, _, i, _ => by unfold imm at i; cases i
  | .adr _, _, _, h => by unfold Rp at h ⊢; exact h
  | .obj _ _ _ _, _, i, _ => by unfold imm at i; cases i
  | .fzl l, _, i, h => by
    unfold imm at i
    unfold Rp at h ⊢
    obtain ⟨b, o, zs, hv, hb, hx⟩ := h
    have ne : b ≠ a := fun z => by rw [z, ha] at hb; cases hb
    exact ⟨b, o, zs, hv, by rw [upd_ne ne]; exact hb, RpAll.updL ha l zs i hx⟩
theorem RpAll.updL {K : Fg} {H : Hp} {a : Addr} {xs ys : List V} (ha : H a = some (.lst xs)) : ∀ (ds : List D) (vs : List V), immAll ds = true → RpAll K H ds vs → RpAll K (upd H a (.lst ys)) ds vs
  | [], _, _, h => by unfold RpAll at h ⊢; exact h
  | d :: ds, _, i, h => by
    unfold immAll at i
    rw [Bool.and_eq_true] at i
    unfold RpAll at h ⊢
    obtain ⟨v, r, hv, h1, h2⟩ := h
    exact ⟨v, r, hv, Rp.updL ha d v i.1 h1, RpAll.updL ha ds r i.2 h2⟩
end
/-- data without lists stays -/
def Kp (K : Fg) (H H2 : Hp) : Prop := ∀ ds vs, immAll ds = true → RpAll K H ds vs → RpAll K H2 ds vs
def SimM2 (K : Fg) (g : TG) (k : D → Env → Option Env) : Prop := ∀ (H0 H : Hp) (ε ε2 : Env) (σ : L2.St) (d : D) (v : V) (Q : L2.St → Hp → Prop), SQ K H0 ε σ H → Rp K H d v → imm d = true → k d ε = some ε2 →
  (∀ σ2 H2, Kp K H H2 → SQ K H0 ε2 σ2 H2 → Q σ2 H2) → g v σ H Q
def SimMs2 (K : Fg) (g : TGs) (k : List D → Env → Option Env) : Prop := ∀ (H0 H : Hp) (ε ε2 : Env) (σ : L2.St) (ds : List D) (vs : List V) (Q : L2.St → Hp → Prop), SQ K H0 ε σ H → RpAll K H ds vs → immAll ds = true → k ds ε = some ε2 →
  (∀ σ2 H2, SQ K H0 ε2 σ2 H2 → Q σ2 H2) → g vs σ H Q
structure QM (X : Cx) (tg : Expr) (g : TG) (k : D → Env → Option Env) : Prop where
  pg : PG X tg g
  sim : SimM2 X.K g k
structure QMs (X : Cx) (tgs : List Expr) (g : TGs) (k : List D → Env → Option Env) : Prop where
  pg : PGs X tgs g
  sim : SimMs2 X.K g k
section
variable {X : Cx} {cl : Nat → Addr} {W : WX} {pos : Pos}
theorem m_name {i : Nat} {x : Str} (hN : X.N.Nodup) (hi : X.N[i]? = some x) (hx : Loc X.env.scope x) (hf : X.fn x = true ∨ X.env.scope.names.lookup x = some .local := by first | exact .inl rfl | exact .inr rfl | assumption) : QM X (.Name x pos) (gName i) (kName i) := by
  have g := g_name (X := X) (pos := pos) hN hi hx hf
  refine ⟨g.pg, fun H0 H ε ε2 σ d v Q q r im k h => ?_⟩
  exact g.sim H0 H H ε ε2 σ d v Q q (Same.refl H) r im k fun σ2 q2 => h σ2 H (fun _ _ _ z => z) q2
/-- x[y] = .., x the own list at i, y the number at j -/
def kSub (i j : Nat) : D → Env → Option Env := fun d ε => match ε[i]?, ε[j]? with
  | some (some (.ow (.list l))), some (some (.fz (.int k))) => if 0 ≤ k ∧ k < l.length ∧ immAll l = true then some (ε.set i (some (.ow (.list (l.set k.toNat d))))) else none
  | _, _ => none
theorem immAll_set {l : List D} {n : Nat} {d : D} (h : immAll l = true) (hd : imm d = true) : immAll (l.set n d) = true := by
  rw [immAll_iff] at h ⊢
  intro x hx
  rcases List.mem_or_eq_of_mem_set hx with z | z
  · exact h x z
  · rw [z]; exact hd
theorem RpAll.setD {K : Fg} {H : Hp} : ∀ {l : List D} {xs : List V} (n : Nat) {d : D} {v : V}, RpAll K H l xs → Rp K H d v → RpAll K H (l.set n d) (xs.set n v)
  | [], xs, n, d, v, h, _ => by
    unfold RpAll at h
    subst h
    exact .nil
  | e :: l, xs, n, d, v, h, hd => by
    unfold RpAll at h
    obtain ⟨u, r, rfl, h1, h2⟩ := h
    cases n with
    | zero => exact .cons hd h2
    | succ n => exact .cons h1 (RpAll.setD n h2 hd)
theorem m_sub {i j : Nat} {o a : Expr} (ho : PE X o (tVar i)) (ha : PE X a (tVar j)) (he : ∀ v, assign (.Subscript o a pos) X.env v = (do
      let ov ← holding [v] (eval o X.env)
      let iv ← holding [v, ov] (eval a X.env)
      standAt pos
      holding [v, ov, iv] (setItem ov iv v)
      release [v, ov, iv] []) := by intro _; rfl) : QM X (.Subscript o a pos) (gSub (tVar i) (tVar j) rSetL) (kSub i j) := by
  refine ⟨pg_sub ho ha set_list he, fun H0 H ε ε2 σ d v Q q r im k h => ?_⟩
  unfold kSub at k
  split at k
  · rename_i l n hi hj
    split at k
    · rename_i hc
      obtain ⟨c1, c2, c3⟩ := hc
      cases k
      obtain ⟨p, xs, h1, h2, h3⟩ := q.own_at hi
      obtain ⟨u, u1, u2⟩ : ∃ u, σ[j]? = some (some u) ∧ u = .int n := by
        obtain ⟨⟨M, t1, b, f0, o, nn⟩, len⟩ := id q
        obtain ⟨u, u1, u2⟩ := f0 j _ hj
        refine ⟨u, u1, ?_⟩
        unfold Rp at u2
        exact u2
      subst u2
      refine ⟨.ref p, h1, .int n, u1, p, xs, n, n.toNat, rfl, rfl, h2, ?_, ?_⟩
      · unfold ixN
        rw [if_pos c1, h3.length, if_pos c2]
      · refine h σ _ (fun ds vs id rd => RpAll.updL h2 ds vs id rd) ?_
        exact q.change hi h1 (immAll_set c3 im) (RpAll.setD _ h3 r)
    · cases k
  · cases k
theorem ms_nil : QMs X [] gNil kNil := by
  refine ⟨pgs_nil, fun H0 H ε ε2 σ ds vs Q q r im k h => ?_⟩
  unfold kNil at k
  cases ds with
  | nil => unfold RpAll at r; cases k; exact ⟨r, h σ H q⟩
  | cons _ _ => cases k
theorem ms_cons {e : Expr} {es : List Expr} {t : TG} {u : TGs} {k : D → Env → Option Env} {ks : List D → Env → Option Env} (h1 : QM X e t k) (h2 : QMs X es u ks) (hs : (assignEach (e :: es) X.env).map (·.2) = assign e X.env :: (assignEach es X.env).map (·.2) := by rfl) : QMs X (e :: es) (gCons t u) (kCons k ks) := by
  refine ⟨pgs_cons h1.pg h2.pg hs, fun H0 H ε ε2 σ ds vs Q q r im kk h => ?_⟩
  cases ds with
  | nil => cases kk
  | cons d ds =>
    unfold RpAll at r
    unfold immAll at im
    rw [Bool.and_eq_true] at im
    obtain ⟨v, w, rfl, r1, r2⟩ := r
    refine ⟨v, w, rfl, ?_⟩
    change (k d ε).bind (ks ds) = some ε2 at kk
    cases e1 : k d ε with
    | none => rw [e1] at kk; cases kk
    | some ε1 =>
      rw [e1] at kk
      exact h1.sim H0 H ε ε1 σ d v _ q r1 im.1 e1 fun σ1 H1 kp q1 => h2.sim H0 H1 ε1 ε2 σ1 ds w Q q1 (kp ds w im.2 r2) im.2 kk h
theorem m_tup {es : List Expr} {n : Nat} {t : TGs} {ks : List D → Env → Option Env} (hc : X.calm = true) (h : QMs X es t ks) (hn : (assignEach es X.env).length = n := by rfl) (hst : (assignEach es X.env).findIdx? (·.1) = none := by rfl)
    (hl : ∀ ds ε, ds.length ≠ n → ks ds ε = none := by intro ds ε h; match ds, h with | _, _ => rfl) : ∀ (H0 H : Hp) (ε ε2 : Env) (σ : L2.St) (d : D) (v : V) (Q : L2.St → Hp → Prop), SQ X.K H0 ε σ H → Rp X.K H d v → imm d = true → kTup ks d ε = some ε2 → (∀ σ2 H2, SQ X.K H0 ε2 σ2 H2 → Q σ2 H2) → gTup X.K n t v σ H Q := by
  intro H0 H ε ε2 σ d v Q q r im k hq
  cases d with
  | tuple l =>
    obtain ⟨a, xs, rfl, ha, hx⟩ := rp_tup r
    change ks l ε = some ε2 at k
    refine ⟨a, xs, rfl, ha, ?_, ?_⟩
    · rw [hx.length]
      by_cases hh : l.length = n
      · exact hh
      · rw [hl l ε hh] at k; cases k
    · unfold imm at im
      exact h.sim H0 H ε ε2 σ l xs Q q hx im k hq
  | _ => cases k
/-- x[y], .. = e -/
theorem s_unpM {es : List Expr} {e : Expr} {te : TE} {f : Dv → Res D} {kk n : Nat} {t : TGs} {ks : List D → Env → Option Env} {tpos : Pos} (hc : X.calm = true) (he : QF X cl W e te f) (h : QMs X es t ks) (hs : swapsWithSole [.Tuple es kk tpos] e pos.line X.env = pure false := by rfl) (hw : swappedStores [.Tuple es kk tpos] e X.env = pure none := by rfl)
    (h1 : (assignEach [.Tuple es kk tpos] X.env).map (·.2) = [assign (.Tuple es kk tpos) X.env] := by rfl) (hn : (assignEach es X.env).length = n := by rfl) (hst : (assignEach es X.env).findIdx? (·.1) = none := by rfl)
    (hl : ∀ ds ε, ds.length ≠ n → ks ds ε = none := by intro ds ε h; match ds, h with | _, _ => rfl) : QS X cl W (.Assign [.Tuple es kk tpos] e pos) (tAsg te (gTup X.K n t)) (gUnp f (kTup ks)) := by
  refine ⟨ps_asg he.pe (pg_tup hc h.pg hn hst) hs hw h1, fun H0 d D2 ε σ H en q hh => ?_⟩
  show te σ H _
  refine he.sim.runS en q hh fun x v H1 _ s1 r1 f1 hk => ?_
  obtain ⟨im, ε2, e2, nx⟩ := hk
  exact m_tup hc h hn hst hl H0 H1 ε ε2 σ x v _ (q.mono s1) r1 im e2 fun σ2 H2 q2 => en.nx _ _ _ q2 nx
/-- x[y] = e -/
theorem s_sto {i j : Nat} {o a e : Expr} {te : TE} {f : Dv → Res D} {tpos : Pos} (he : QF X cl W e te f) (hg : QM X (.Subscript o a tpos) (gSub (tVar i) (tVar j) rSetL) (kSub i j)) (hs : swapsWithSole [.Subscript o a tpos] e pos.line X.env = pure false := by rfl) (hw : swappedStores [.Subscript o a tpos] e X.env = pure none := by rfl)
    (h1 : (assignEach [.Subscript o a tpos] X.env).map (·.2) = [assign (.Subscript o a tpos) X.env] := by rfl) : QS X cl W (.Assign [.Subscript o a tpos] e pos) (tAsg te (gSub (tVar i) (tVar j) rSetL)) (gUnp f (kSub i j)) := by
  refine ⟨ps_asg he.pe hg.pg hs hw h1, fun H0 d D2 ε σ H en q hh => ?_⟩
  show te σ H _
  refine he.sim.runS en q hh fun x v H1 _ s1 r1 f1 hk => ?_
  obtain ⟨im, ε2, e2, nx⟩ := hk
  exact hg.sim H0 H1 ε ε2 σ x v _ (q.mono s1) r1 im e2 fun σ2 H2 _ q2 => en.nx _ _ _ q2 nx
end
@[simp] theorem kSub_at (i j : Nat) (d : D) (ε : Env) : kSub i j d ε = match ε[i]?, ε[j]? with
  | some (some (.ow (.list l))), some (some (.fz (.int k))) => if 0 ≤ k ∧ k < l.length ∧ immAll l = true then some (ε.set i (some (.ow (.list (l.set k.toNat d))))) else none
  | _, _ => none := rfl
end DL
namespace DL
open PySem L2
/-! ### x or y, x None or a tuple that has something -/
def dOrT (f h : Dv → Res D) : Dv → Res D := fun δ => (f δ).bind fun d => match d with
  | .none => h δ
  | .tuple (x :: l) => .ok (.tuple (x :: l))
  | _ => .stuck
section
variable {X : Cx} {cl : Nat → Addr} {W : WX} {a b : Expr} {ta tb : TE} {f h : Dv → Res D} {rest : List Expr} {pos : Pos}
theorem v_orT (ha : QE X cl W a ta f) (hb : QF X cl W (.BoolOp .Or (b :: rest) pos) tb h) : QF X cl W (.BoolOp .Or (a :: b :: rest) pos) (tOrT X.K ta tb) (dOrT f h) := by
  refine ⟨pe_orT ha.pe hb.pe, fun δ σ H Q en po => ?_⟩
  show ta σ H _
  refine ha.sim.chain (P := fun H r => PostF X.K cl W σ H r Q) en po (fun c h => h) (fun H h => h) fun d v H1 _ s1 r1 p1 => ?_
  cases d with
  | none =>
    have e : v = .non := by unfold Rp at r1; exact r1
    subst e
    exact ⟨false, rfl, hb.sim δ σ H1 Q (en.mono s1) (PostF.weak s1 p1)⟩
  | tuple l =>
    cases l with
    | nil => exact p1.elim
    | cons x l =>
      obtain ⟨p, xs, rfl, hp, hx⟩ := id (rp_tup r1)
      refine ⟨true, ?_, ?_⟩
      · refine .inr (.inl ⟨xs, hp, ?_⟩)
        have := hx.length
        cases xs with
        | nil => cases this
        | cons y ys => rfl
      exact p1 _ H1 s1 (Rp.mono (Same.refl _) _ _ r1) (fresh_no rfl)
  | _ => exact p1.elim
end
end DL
namespace DL
open PySem L2
/-! ### x, y, z, u = a, b, c, d -/
section
variable {X : Cx} {cl : Nat → Addr} {W : WX} {a b c e : Expr} {ta tb tc td : TE} {f h l k : Dv → Res D} {pos px py pz pu pt pt2 : Pos} {kt k2 : Nat}
def gPar4 (i j m n : Nat) (p q r s : Bool) (f h l k : Dv → Res D) : DS := fun d ε => (f (view ε)).on (fun x => (h (view ε)).on (fun y => (l (view ε)).on (fun z => (k (view ε)).on (fun u => (i < ε.length ∧ j < ε.length ∧ m < ε.length ∧ n < ε.length ∧ okM p x ∧ okM q y ∧ okM r z ∧ okM s u) ∧ d.nx ((((ε.set i (mk p x)).set j (mk q y)).set m (mk r z)).set n (mk s u))) (fun c => d.ex c ε)) (fun c => d.ex c ε)) (fun c => d.ex c ε)) (fun c => d.ex c ε)
theorem s_par4 {i j m n : Nat} (p q r s : Bool) {x y z u : Str} (ha : QF X cl W a ta f) (hb : QF X cl W b tb h) (hc2 : QF X cl W c tc l) (hd : QF X cl W e td k) (hc : X.calm = true) (hN : X.N.Nodup) (hi : X.N[i]? = some x) (hj : X.N[j]? = some y) (hm : X.N[m]? = some z) (hn : X.N[n]? = some u)
    (hx : Loc X.env.scope x) (hy : Loc X.env.scope y) (hz : Loc X.env.scope z) (hu : Loc X.env.scope u)
    (fx : X.fn x = true ∨ X.env.scope.names.lookup x = some .local) (fy : X.fn y = true ∨ X.env.scope.names.lookup y = some .local) (fz : X.fn z = true ∨ X.env.scope.names.lookup z = some .local) (fu : X.fn u = true ∨ X.env.scope.names.lookup u = some .local)
    (hw : swappedStores [.Tuple [.Name x px, .Name y py, .Name z pz, .Name u pu] kt pt] (.Tuple [a, b, c, e] k2 pt2) X.env = pure none)
    (hs : swapsWithSole [.Tuple [.Name x px, .Name y py, .Name z pz, .Name u pu] kt pt] (.Tuple [a, b, c, e] k2 pt2) pos.line X.env = pure false := by rfl)
    (h1 : (assignEach [.Tuple [.Name x px, .Name y py, .Name z pz, .Name u pu] kt pt] X.env).map (·.2) = [assign (.Tuple [.Name x px, .Name y py, .Name z pz, .Name u pu] kt pt) X.env] := by rfl)
    (st1 : starEach [a, b, c, e] X.env = (false, eval a X.env) :: starEach [b, c, e] X.env := by rfl) (st2 : starEach [b, c, e] X.env = (false, eval b X.env) :: starEach [c, e] X.env := by rfl) (st3 : starEach [c, e] X.env = (false, eval c X.env) :: starEach [e] X.env := by rfl) (st4 : starEach [e] X.env = (false, eval e X.env) :: starEach [] X.env := by rfl) :
    QS X cl W (.Assign [.Tuple [.Name x px, .Name y py, .Name z pz, .Name u pu] kt pt] (.Tuple [a, b, c, e] k2 pt2) pos) (tAsg (tTup (tCons ta (tCons tb (tCons tc (tCons td tNil))))) (gTup X.K 4 (gCons (gName i) (gCons (gName j) (gCons (gName m) (gCons (gName n) gNil)))))) (gPar4 i j m n p q r s f h l k) := by
  refine ⟨ps_asg (pe_tup (pa_cons ha.pe (pa_cons hb.pe (pa_cons hc2.pe (pa_cons hd.pe pa_nil st4) st3) st2) st1)) (pg_tup hc (pgs_cons (pg_name hN hi hx fx) (pgs_cons (pg_name hN hj hy fy) (pgs_cons (pg_name hN hm hz fz) (pgs_cons (pg_name hN hn hu fu) pgs_nil))))) hs hw h1, fun H0 d D2 ε σ H en q0 hh => ?_⟩
  show ta σ H _
  refine ha.sim.runS en q0 hh fun u1 v1 H1 _ s1 r1 f1 k1 => ?_
  show tb σ H1 _
  refine hb.sim.runS en (q0.mono s1) k1 fun u2 v2 H2 _ s2 r2 f2 k2 => ?_
  show tc σ H2 _
  refine hc2.sim.runS en ((q0.mono s1).mono s2) k2 fun u3 v3 H3 _ s3 r3 f3 k3 => ?_
  show td σ H3 _
  refine hd.sim.runS en (((q0.mono s1).mono s2).mono s3) k3 fun u4 v4 H4 _ s4 r4 f4 k4 => ?_
  obtain ⟨⟨l1, l2, l3, l4, o1, o2, o3, o4⟩, nx⟩ := k4
  refine ⟨by show 4 ≤ sizeLine; decide, fun pa hpa => ?_⟩
  have sm := same_new (o := .tup [v1, v2, v3, v4]) hpa
  refine ⟨pa, [v1, v2, v3, v4], rfl, Or.inl (Or.inl upd_same), rfl, v1, _, rfl, v2, _, rfl, v3, _, rfl, v4, _, rfl, rfl, en.nx _ _ _ ?_ nx⟩
  exact SQ.mono sm (SQ.putM (SQ.putM (SQ.putM (SQ.putM q0 l1 o1 s1 r1 f1) (by rw [List.length_set]; exact l2) o2 s2 r2 f2) (by rw [List.length_set, List.length_set]; exact l3) o3 s3 r3 f3) (by rw [List.length_set, List.length_set, List.length_set]; exact l4) o4 s4 r4 f4)
def xPar4 (i j m n : Nat) (p q r s : Bool) (f h l k : Dv → Res D) : XS := fun ε => (f (view ε)).thn ε fun x => (h (view ε)).thn ε fun y => (l (view ε)).thn ε fun z => (k (view ε)).thn ε fun u => Out.need (i < ε.length ∧ j < ε.length ∧ m < ε.length ∧ n < ε.length ∧ okM p x ∧ okM q y ∧ okM r z ∧ okM s u) (.nx ((((ε.set i (mk p x)).set j (mk q y)).set m (mk r z)).set n (mk s u)))
theorem snd_par4 {i j m n : Nat} {p q r s : Bool} : Snd (gPar4 i j m n p q r s f h l k) (xPar4 i j m n p q r s f h l k) := fun d ε hh => Res.on_mono (Res.thn_to hh) fun v z => Res.on_mono (Res.thn_to z) fun u z => Res.on_mono (Res.thn_to z) fun w z => Res.on_mono (Res.thn_to z) fun w2 z => by
  obtain ⟨h1, h2⟩ := Out.need_to z
  exact ⟨h1, h2⟩
@[simp] theorem xPar4_at (i j m n : Nat) (p q r s : Bool) (ε : Env) : xPar4 i j m n p q r s f h l k ε = (f (view ε)).thn ε fun x => (h (view ε)).thn ε fun y => (l (view ε)).thn ε fun z => (k (view ε)).thn ε fun u => Out.need (i < ε.length ∧ j < ε.length ∧ m < ε.length ∧ n < ε.length ∧ okM p x ∧ okM q y ∧ okM r z ∧ okM s u) (.nx ((((ε.set i (mk p x)).set j (mk q y)).set m (mk r z)).set n (mk s u))) := rfl
end
end DL
namespace DL
open PySem L2
/-! ### tuples compared by <; not in a tuple -/
def rLtD (K : Fg) : R2 := fun x y H Q => ∃ d e : D, Rp K H d x ∧ Rp K H e y ∧ shp 9 d = true ∧ shp 9 e = true ∧ PySem.W.alike (toPy d) (toPy e) = true ∧ toPy d ≠ .none ∧ Q (.bl (dLt d e)) H
theorem op_ltD {X : Cx} (hu : X.A.units + 64 < cLine) : OpR X (compareOp .Lt) (rLtD X.K) := by
  intro pins s σ H x y v u Q I rx ry h
  obtain ⟨d, e, hd, he, sd, se, al, nn, q⟩ := h
  obtain ⟨as, ra⟩ := Dp.reads I (toPy d) x _ (Rp.dp 9 d x sd hd) rx
  obtain ⟨bs, rb⟩ := Dp.reads I (toPy e) y _ (Rp.dp 9 e y se he) ry
  have l1 := (shp_lay 9 d sd).2
  refine PySem.W.lt_data ra rb al nn (by omega) ?_
  exact ⟨.bl _, H, I, rfl, q⟩
def oLtD : D → D → Res D
  | .tuple l, .tuple m => Res.need (shp 9 (.tuple l) = true ∧ shp 9 (.tuple m) = true ∧ PySem.W.alike (toPy (.tuple l)) (toPy (.tuple m)) = true) (.ok (.bool (dLt (.tuple l) (.tuple m))))
  | _, _ => .stuck
theorem oLtD_ne (a b : D) : noExc (oLtD a b) := by
  unfold oLtD
  split
  · exact need_noExc ok_noExc
  · exact stuck_noExc
def rNiD (K : Fg) : R2 := fun x y H Q => ∃ (d : D) (ds : List D), Rp K H d x ∧ Rp K H (.tuple ds) y ∧ shp 9 d = true ∧ shp 9 (.tuple ds) = true ∧ Q (.bl (!(ds.any fun z => deq z d))) H
theorem op_niD {X : Cx} (hu : X.A.units + 64 < cLine) : OpR X (compareOp .NotIn) (rNiD X.K) := by
  intro pins s σ H x y v u Q I rx ry h
  obtain ⟨d, ds, hd, he, sd, se, q⟩ := h
  obtain ⟨as, ra⟩ := Dp.reads I (toPy d) x _ (Rp.dp 9 d x sd hd) rx
  obtain ⟨bs, rb⟩ := Dp.reads I (toPy (.tuple ds)) y _ (Rp.dp 9 (.tuple ds) y se he) ry
  have l1 := shp_lay 9 d sd
  have l2 := shp_layAll 8 ds (by simpa using se)
  have e0 : toPy (.tuple ds) = .tuple (toPyAll ds) := by unfold toPy; rfl
  rw [e0] at rb
  refine PySem.SeqAt.notIn_tuple_data rb ra (PyData.plainAll_of_canLay0 _ l2.1) (PyData.plain_of_canLay0 _ l1.1) (by omega) ?_
  refine ⟨.bl _, H, I, rfl, ?_⟩
  have e1 : (toPyAll ds).any (fun y => PyData.eqv y (toPy d)) = ds.any fun z => deq z d := by
    rw [toPyAll_map, List.any_map]
    rfl
  rw [e1]
  exact q
def oNiD : D → D → Res D
  | d, .tuple ds => Res.need (shp 9 d = true ∧ shp 9 (.tuple ds) = true) (.ok (.bool (!(ds.any fun z => deq z d))))
  | _, _ => .stuck
theorem oNiD_ne (a b : D) : noExc (oNiD a b) := by
  unfold oNiD
  split
  · exact need_noExc ok_noExc
  · exact stuck_noExc
section
variable {K : Fg} {cl : Nat → Addr}
theorem sim_ltD : SimR K cl (rLtD K) oLtD := by
  intro x y a b σ H Q ra rb po
  unfold oLtD at po
  split at po
  · obtain ⟨⟨h1, h2, h3⟩, po⟩ := need_on po
    exact ⟨_, _, ra, rb, h1, h2, h3, by unfold toPy; exact fun z => (by cases z), po _ H (Same.refl H) (rpb _) (fresh_no rfl)⟩
  · exact po.elim
theorem sim_niD : SimR K cl (rNiD K) oNiD := by
  intro x y a b σ H Q ra rb po
  unfold oNiD at po
  split at po
  · obtain ⟨⟨h1, h2⟩, po⟩ := need_on po
    exact ⟨_, _, ra, rb, h1, h2, po _ H (Same.refl H) (rpb _) (fresh_no rfl)⟩
  · exact po.elim
end
section
variable {X : Cx} {cl : Nat → Addr} {W : WX} {a b : Expr} {pos : Pos} {ta tb : TE} {f h : Dv → Res D}
theorem q_ltD (hu : X.A.units + 64 < cLine) (ha : QE X cl W a ta f) (hb : QE X cl W b tb h) : QF X cl W (.Compare a [.Lt] [b] pos) (tOp (rLtD X.K) ta tb) (d2 oLtD f h) := q_cmp (op_ltD hu) sim_ltD oLtD_ne ha hb (nomark _)
theorem t_ltD (hu : X.A.units + 64 < cLine) (ha : QE X cl W a ta f) (hb : QE X cl W b tb h) : QT X cl W (.Compare a [.Lt] [b] pos) (tTest (tOp (rLtD X.K) ta tb)) (dB (d2 oLtD f h)) := qt_cmp (op_ltD hu) sim_ltD oLtD_ne ha hb (nomark _)
theorem q_niD (hu : X.A.units + 64 < cLine) (ha : QE X cl W a ta f) (hb : QE X cl W b tb h) (hm : behindInMarks .NotIn b = false := by rfl) : QF X cl W (.Compare a [.NotIn] [b] pos) (tOp (rNiD X.K) ta tb) (d2 oNiD f h) := q_cmp (op_niD hu) sim_niD oNiD_ne ha hb hm
theorem t_niD (hu : X.A.units + 64 < cLine) (ha : QE X cl W a ta f) (hb : QE X cl W b tb h) (hm : behindInMarks .NotIn b = false := by rfl) : QT X cl W (.Compare a [.NotIn] [b] pos) (tTest (tOp (rNiD X.K) ta tb)) (dB (d2 oNiD f h)) := qt_cmp (op_niD hu) sim_niD oNiD_ne ha hb hm
end
end DL
namespace DL
open PySem L2
/-! ### min(list, default=None); powers -/
def rMinDf (K : Fg) : List V → List V → Hp → VK → Prop := fun vs zs H Q => ∃ a ds xs, vs = [V.ref a] ∧ zs = [V.non] ∧ SqL K H a xs ∧ RpAll K H ds xs ∧ shpAll 9 ds = true ∧ alk ds = true ∧ noNone ds = true ∧ (ds = [] → Q .non H) ∧ ∀ d es, ds = d :: es → ∀ x, Rp K H (minF d es) x → Q x H
theorem cr_minDf {X : Cx} (hc : X.calm = true) (hu : X.A.units + 64 < cLine) : CallRK X (.builtin "min") [Str.ofString "default"] (rMinDf X.K) := by
  intro pins s σ H vs zs us ws Q I r rz h
  obtain ⟨a, ds, xs, rfl, rfl, hs, hr, hsh, hal, hnn, q0, q1⟩ := h
  obtain rfl := Vals.ref1 r
  obtain ⟨w1, rfl, e1⟩ := vals1 rz
  obtain rfl : w1 = Value.none := e1
  obtain ⟨its, rv, hl, hz⟩ := I.list hs
  obtain ⟨as, ra⟩ := reads_all I hsh hr rv
  have hil := hl.isList
  refine PySem.call_min_walkD (PySem.W.iter_listW (A := X.A.in1) (I.ok.hd hc) hil fun s2 e Wk st hfp hw hk => ?_)
  have dp := depth_all hsh
  refine ⟨_, _, _, _, _, _, _, s.heap, (fun i j => dLt (ds.getD i .none) (ds.getD j .none)), rfl, Wk, st, hfp, hw, hk, fun hz0 s3 m => ?_, fun hp => ⟨?_, fun v s3 hP m => ?_⟩⟩
  · obtain ⟨h2, tk, rfl, hk2⟩ := PySem.W.moved_old e rfl m
    have e0 : ds = [] := by
      rw [List.size_toArray, ← rv.length, hr.length] at hz0
      exact List.length_eq_zero_iff.mp hz0
    exact ⟨.non, H, I.kept hk2, rfl, q0 e0⟩
  · have c := PySem.W.cmpIn_lt (prog := X.prog) (w := X.w) (A := X.A.in1) (vs := its.toArray) (xs := ds.map toPy) (as := as) (by rw [List.toList_toArray]; exact ra) (alike_all hal hnn) (by show X.A.units + 1 + _ < _; omega)
    have eb : (fun i j => PySem.W.dataLt ((ds.map toPy).getD i .none) ((ds.map toPy).getD j .none)) = fun i j => dLt (ds.getD i .none) (ds.getD j .none) := by
      funext i j
      rw [getD_py, getD_py]
      rfl
    rw [eb] at c
    exact c
  · obtain ⟨h2, tk, rfl, hk2⟩ := PySem.W.moved_old e rfl m
    cases ds with
    | nil =>
      rw [List.size_toArray, ← rv.length, hr.length] at hp
      exact absurd hp (by simp)
    | cons d es =>
      obtain ⟨x, rx, rp⟩ := pick_at I (f := dLt) hr rv rfl hP
      exact ⟨x, H, I.kept hk2, rx, q1 d es rfl x rp⟩
def cMinDf : D → Res D
  | .list [] => .ok .none
  | .list (d :: ds) => Res.need (okMin (d :: ds)) (.ok (minF d ds))
  | _ => .stuck
section
variable {X : Cx} {cl : Nat → Addr} {W : WX} {e : Expr} {te : TE} {f : Dv → Res D} {p pos kp bp : Pos} {jj : Nat}
theorem q_minDf (hc : X.calm = true) (hu : X.A.units + 64 < cLine) (hm : X.mg "min" = none) (he : QE X cl W e te f) (hg : Gl X "min" := by rfl)
    (hs : starEach [e] X.env = [(false, eval e X.env)] := by rfl) (h1 : backTo pos (starEach [e] X.env) = (false, eval e X.env) :: backTo pos (starEach [] X.env) := by rfl) (hpl : (backTo pos (starEach [e] X.env)).any (·.1) = false := by rfl) :
    QF X cl W (.Call (.Name "min" p) [e] [⟨some (Str.ofString "default"), .Constant .none jj bp, kp⟩] pos) (tCKw (rMinDf X.K) (tCons te tNil) (tCons (tC .non) tNil)) (fun δ => (f δ).bind cMinDf) := by
  refine ⟨pe_callBK (cr_minDf hc hu) hg hm (by decide +kernel) (pa_cons he.pe pa_nil hs) (pk_cons pe_non pk_nil) (by decide) (by decide) h1 hpl, fun δ σ H Q en po => ?_⟩
  show te σ H _
  refine he.sim δ σ H _ en ?_
  change ((f δ).bind cMinDf).on _ _ at po
  cases r : f δ with
  | exc c => rw [r] at po; exact po
  | stuck => rw [r] at po; exact po
  | ok d =>
    rw [r, Res.ok_bind] at po
    intro v H1 s rp
    cases d with
    | list l =>
      obtain ⟨a, xs, rfl, ha, hx⟩ := rp_list rp
      cases l with
      | nil =>
        refine ⟨a, [], xs, rfl, rfl, Or.inl (Or.inl ha), hx, rfl, rfl, rfl, fun _ => po _ H1 s (by unfold Rp; rfl) (fresh_no rfl), fun d es z => (by cases z)⟩
      | cons d ds =>
        unfold cMinDf at po
        obtain ⟨⟨c1, c2, c3, c4⟩, po⟩ := need_on po
        rw [immAll_cons, Bool.and_eq_true] at c4
        refine ⟨a, d :: ds, xs, rfl, rfl, Or.inl (Or.inl ha), hx, c1, c2, c3, fun z => (by cases z), fun d2 es z x rx => ?_⟩
        cases z
        exact po x H1 s rx (fresh_no (imm_box (fold_imm dLt ds d c4.1 c4.2)))
    | _ => exact po.elim
end
def oPow : D → D → Res D
  | .int i, .int j => Res.need (0 ≤ j ∧ j.natAbs ≤ 1000 ∧ i.natAbs ≤ 1000) (.ok (.int (i ^ j.toNat)))
  | _, _ => .stuck
theorem oPow_ne (a b : D) : noExc (oPow a b) := by
  unfold oPow
  split
  · exact need_noExc ok_noExc
  · exact stuck_noExc
section
variable {K : Fg} {cl : Nat → Addr}
theorem sim_pow : SimR K cl (rI CPow fun i j => .int (i ^ j.toNat)) oPow := by
  intro x y a b σ H Q ra rb po
  unfold oPow at po
  split at po
  · obtain rfl := rp_int ra; obtain rfl := rp_int rb
    obtain ⟨hc, po⟩ := need_on po
    exact ⟨_, _, rfl, rfl, ⟨hc.1, by omega, by omega⟩, po _ H (Same.refl H) (rpi _) (fresh_no rfl)⟩
  · exact po.elim
end
theorem q_pow {X : Cx} {cl : Nat → Addr} {W : WX} {a b : Expr} {pos : Pos} {ta tb : TE} {f h : Dv → Res D} (ha : QE X cl W a ta f) (hb : QE X cl W b tb h) : QF X cl W (.BinOp a .Pow b pos) (tOp (rI CPow fun i j => .int (i ^ j.toNat)) ta tb) (d2 oPow f h) := q_op op_pow sim_pow oPow_ne ha hb
end DL
namespace DL
open PySem L2
/-! ### for over zip of two names' lists that are only read -/
def gForZ (i j : Nat) (k : D → Env → Option Env) (g : DS) : DS := fun d ε => ∃ l m, ε[i]? = some (some (.fz (.list l))) ∧ ε[j]? = some (some (.fz (.list m))) ∧ ∃ I : Nat → Env → Prop, I 0 ε ∧
  (∀ i x ε', (zipD l m)[i]? = some x → I i ε' → imm x = true ∧ ∃ ε2, k x ε' = some ε2 ∧ g { d with nx := I (i + 1), ct := I (i + 1), bk := d.nx } ε2) ∧ ∀ ε', I (zipD l m).length ε' → d.nx ε'
theorem s_forZ {X : Cx} {cl : Nat → Addr} {W : WX} {e1 e2 : Expr} {elts : List Expr} {kk : Nat} {body : List Stmt} {g : TG} {tb : TS} {k : D → Env → Option Env} {gb : DS} {p pos pos2 tpos : Pos} {i j : Nat} (hp : PassesOwn (model X.prog X.w) X.A X.env X.xe) (hc : X.calm = true) (hm : X.mg "zip" = none) (hi : PE X e1 (tVar i)) (hj : PE X e2 (tVar j)) (hg : QG X (.Tuple elts kk tpos) g k) (hb : QSs X cl W body tb gb)
    (hgl : Gl X "zip" := by rfl) (st1 : starEach [e1, e2] X.env = (false, eval e1 X.env) :: starEach [e2] X.env := by rfl) (st2 : starEach [e2] X.env = (false, eval e2 X.env) :: starEach [] X.env := by rfl) (hpl : (backTo pos2 (starEach [e2] X.env)).any (·.1) = false := by rfl)
    (hs : ∀ x, foldedSetIterable (.Call (.Name "zip" p) [e1, e2] [] pos2) X.env x = pure x := by intro _; rfl) : QS X cl W (.For (.Tuple elts kk tpos) (.Call (.Name "zip" p) [e1, e2] [] pos2) body [] pos) (tFor (RZ.iZipA X.K (tCons (tVar i) (tCons (tVar j) tNil))) g tb) (gForZ i j k gb) := by
  refine ⟨ps_for hp hc (RZ.pi_zipA hgl hm (pa_cons hi (pa_cons hj pa_nil st2) st1) st1 hpl) hg.pg hb.ps hs, fun H0 d D2 ε σ H en q h => ?_⟩
  obtain ⟨l, m, hy, hz, h⟩ := h
  obtain ⟨⟨M, t1, b, f0, o, n⟩, len⟩ := id q
  obtain ⟨v1, hv1, rv1⟩ := f0 i _ hy
  obtain ⟨v2, hv2, rv2⟩ := f0 j _ hz
  have q1 : SQ X.K (hide H M) ε σ H := ⟨⟨M, Same.refl _, b, f0, o, n⟩, len⟩
  have enB := en.raise t1
  obtain ⟨a, xs, rfl, ha, hx⟩ := rp_list rv1
  obtain ⟨c, ys, rfl, hcc, hyy⟩ := rp_list rv2
  have core : ∀ (J : It), WalkD X.K (hide H M) J (zipD l m) → ∃ W : Nat → Nat → L2.St → Hp → Prop, (∃ m, W 0 m σ H) ∧ ∀ i m σ H, W i m σ H →
      (J.stop i H ∧ D2.nx σ H) ∨ (J.go i H ∧ ∃ N : L2.St → Hp → Prop, (∀ σ' H', N σ' H' → ∃ m', m' < m ∧ W (i + 1) m' σ' H') ∧ ∀ x H', J.yld i H x H' → g x σ H' fun σ2 H2 => tb { D2 with nx := N, ct := N, bk := D2.nx } σ2 H2) := by
    intro J w
    obtain ⟨I, i0, step, fin⟩ := h
    obtain ⟨G, Y, wk, hG, hY⟩ := w
    refine for_it wk (fun i σ' H' => ∃ ε', SQ X.K (hide H M) ε' σ' H' ∧ I i ε') ⟨ε, q1, i0⟩ (fun i σ' H' _ ⟨ε', q', _⟩ => hG H' q'.1.same) (fun i x σ' H' H2 hi ⟨ε', q', i'⟩ y => ?_) (fun σ' H' ⟨ε', q', i'⟩ => ?_)
    · obtain ⟨sm, dd, hd, rp⟩ := hY i H' x H2 hi q'.1.same y
      obtain ⟨im, ε2, hk, hgb⟩ := step i dd ε' hd i'
      refine hg.sim (hide H M) H' H2 ε' ε2 σ' dd x _ q' sm rp im hk fun σ2 q2 => ?_
      exact hb.sim (hide H M) { d with nx := I (i + 1), ct := I (i + 1), bk := d.nx } _ ε2 σ2 H2 ⟨fun ε σ H a b => ⟨ε, a, b⟩, enB.rt, enB.ex, enB.nx, fun ε σ H a b => ⟨ε, a, b⟩⟩ q2 hgb
    · exact enB.nx _ _ _ q' (fin ε' i')
  refine ⟨.ref a, hv1, .ref c, hv2, a, c, xs, ys, rfl, .inl ⟨Or.inl (Or.inl (hide_same _ _ _ _ ha)), Or.inl (Or.inl (hide_same _ _ _ _ hcc)), ?_⟩⟩
  exact core _ (walkD_zL (Or.inl (Or.inl ha)) (Or.inl (Or.inl hcc)) hx hyy)
def xForZ (i j : Nat) (k : D → Env → Option Env) (b : XS) : XS := fun ε => match fzAt ε i, fzAt ε j with
  | some (.list l), some (.list m) => xLoop k b (zipD l m) ε
  | _, _ => .stuck
theorem snd_forZ {i j : Nat} {kk : D → Env → Option Env} {g : DS} {x : XS} (h1 : Snd g x) : Snd (gForZ i j kk g) (xForZ i j kk x) := fun d ε hh => by
  unfold xForZ at hh
  split at hh
  · rename_i l m e1 e2
    exact ⟨l, m, fzAt_some e1, fzAt_some e2, loop_to h1 hh⟩
  · exact hh.elim
@[simp] theorem xForZ_at (i j : Nat) (k : D → Env → Option Env) (b : XS) (ε : Env) : xForZ i j k b ε = match fzAt ε i, fzAt ε j with
  | some (.list l), some (.list m) => xLoop k b (zipD l m) ε
  | _, _ => .stuck := rfl
end DL
namespace DL
open PySem L2 PySem.Spec PyProof.Rows
/-! ### a tuple times a number -/
theorem tmul_same (l : Addr) (items : Array Value) (n : Nat) (dd : Option Addr) (sl : Array (Option Value)) (x : Int) (u : Tok) (c0 : (decide (x < -(2 ^ 63)) || decide (x ≥ 2 ^ 63)) = false) (c1 : (items.isEmpty || x == 1) = true) :
    Meets (Builtin.«tuple.__mul__» ⟨[.ref l, .int x u], []⟩) (fun _ R s => s.heap.get? l = some { cls := .type "tuple", dict := dd, data := .seq items n, slots := sl } ∧ R (.ok (.ret (Value.ref l))) s) :=
  .of_wp fun prog w A R s h => by
    obtain ⟨hp, g, d, tk, os⟩ := s
    obtain ⟨hl, h⟩ := h
    have f1 := AutoSeq1.idx_int
    wp_walk using wpAny_loadPart' hl
    repeat (first
      | (refine wpAny_ite_false (decide_eq_false (by rw [c0]; exact Bool.false_ne_true)) ?_; wp_walk using wpAny_loadPart' hl)
      | (refine wpAny_ite_true (decide_eq_true c1) ?_; wp_walk using wpAny_loadPart' hl))
    exact ⟨_, rfl, h⟩
theorem tmul_nil (l : Addr) (items : Array Value) (n : Nat) (dd : Option Addr) (sl : Array (Option Value)) (x : Int) (u : Tok) (c0 : (decide (x < -(2 ^ 63)) || decide (x ≥ 2 ^ 63)) = false) (c1 : (items.isEmpty || x == 1) = false) (c2 : (decide (x ≤ 0) || items.isEmpty) = true) :
    Meets (Builtin.«tuple.__mul__» ⟨[.ref l, .int x u], []⟩) (fun _ R s => s.heap.get? l = some { cls := .type "tuple", dict := dd, data := .seq items n, slots := sl } ∧
      R (.ok (.ret (Value.ref s.heap.objs.size))) { s with heap := s.heap.push { cls := Value.type "tuple", data := Data.seq #[] }, toks := s.toks }) :=
  .of_wp fun prog w A R s h => by
    obtain ⟨hp, g, d, tk, os⟩ := s
    obtain ⟨hl, h⟩ := h
    have f1 := AutoSeq1.idx_int
    wp_walk using wpAny_loadPart' hl
    repeat (first
      | (refine wpAny_ite_false (decide_eq_false (by rw [c0]; exact Bool.false_ne_true)) ?_; wp_walk using wpAny_loadPart' hl)
      | (refine wpAny_ite_false (decide_eq_false (by rw [c1]; exact Bool.false_ne_true)) ?_; wp_walk using wpAny_loadPart' hl)
      | (refine wpAny_ite_true (decide_eq_true c2) ?_; wp_walk using wpAny_loadPart' hl)
      | (refine wpAny_ite_false (decide_eq_false (Nat.not_lt.mpr (Nat.zero_le _))) ?_; wp_walk using wpAny_loadPart' hl))
    exact ⟨_, rfl, h⟩
def rRepU (K : Fg) : R2 := fun x y H Q => ∃ l k xs, x = .ref l ∧ y = .int k ∧ SqT K H l xs ∧ 0 ≤ k ∧ k ≤ 1000 ∧ xs.length ≤ 1000 ∧ ((xs = [] ∨ k = 1) → Q (.ref l) H) ∧ (k = 0 → ∀ p, H p = none → Q (.ref p) (upd H p (.tup []))) ∧ (2 ≤ k → ∀ p, H p = none → Q (.ref p) (upd H p (.tup (List.replicate k.toNat xs).flatten)))
theorem op_repU {X : Cx} : OpR X (binaryOp .Mult) (rRepU X.K) := by
  intro pins s σ H x y v u Q I rx ry h
  obtain ⟨l, k, xs, rfl, rfl, hT, h0, h1, hz, q1, q2, q3⟩ := h
  have c0 : (decide (k < -(2 ^ 63)) || decide (k ≥ 2 ^ 63)) = false := by
    rw [decide_eq_false (by omega), decide_eq_false (by omega)] <;> rfl
  by_cases hb : 2 ≤ k ∧ xs ≠ []
  · exact op_repT pins s σ H _ _ v u Q I rx ry ⟨l, k, xs, rfl, rfl, hT, hb.2, hb.1, h1, hz, q3 hb.1⟩
  · cases rx
    obtain ⟨t, rfl⟩ := ry
    obtain ⟨its, r, ⟨⟨cls, dd, data, sl⟩, ho, hc, n, hd⟩, hs⟩ := I.tuple hT
    simp only at hc hd
    subst hc hd
    by_cases hs1 : xs = [] ∨ k = 1
    · have c1 : (its.toArray.isEmpty || k == 1) = true := by
        rcases hs1 with e | e
        · have : its = [] := (Vals.nil_iff r).mpr e
          subst this
          rfl
        · rw [e]; simp
      refine wpAny_binaryOp_repeat_ref (T := "tuple") (U := "int") (by decide) ⟨_, ho, rfl⟩ (fun s' => typeIs_int s' k t) noFill_tuple_mul F.fills_int_mul F.slot_int_rmul repeat_tuple F.slot_int_index.lookup
        (call_meets F.slot_int_rmul (typeIs_int s k t) F.entry_int_rmul (F.args_int_rmul_2 _ _) (int_rmul_tuple k t l its.toArray n dd sl)
          ⟨ho, rfl, ⟨_, ho, rfl⟩, call_meets F.slot_tuple_mul ⟨_, ho, rfl⟩ F.entry_tuple_mul (F.args_tuple_mul_2 _ _) (tmul_same l its.toArray n dd sl k t c0 c1) ⟨ho, ?_⟩⟩)
      exact ⟨.ref l, H, I, rfl, q1 hs1⟩
    · have hne : xs ≠ [] := fun e => hs1 (.inl e)
      have hk : k = 0 := by
        have a1 : k ≠ 1 := fun e => hs1 (.inr e)
        have a2 : ¬ 2 ≤ k := fun e => hb ⟨e, hne⟩
        omega
      have hi : its.toArray.isEmpty = false := by
        cases its with
        | nil => exact absurd ((Vals.nil_iff r).mp rfl) hne
        | cons a b => rfl
      refine wpAny_binaryOp_repeat_ref (T := "tuple") (U := "int") (by decide) ⟨_, ho, rfl⟩ (fun s' => typeIs_int s' k t) noFill_tuple_mul F.fills_int_mul F.slot_int_rmul repeat_tuple F.slot_int_index.lookup
        (call_meets F.slot_int_rmul (typeIs_int s k t) F.entry_int_rmul (F.args_int_rmul_2 _ _) (int_rmul_tuple k t l its.toArray n dd sl)
          ⟨ho, rfl, ⟨_, ho, rfl⟩, call_meets F.slot_tuple_mul ⟨_, ho, rfl⟩ F.entry_tuple_mul (F.args_tuple_mul_2 _ _) (tmul_nil l its.toArray n dd sl k t c0 (by rw [hi, hk]; rfl) (by rw [hk]; rfl)) ⟨ho, ?_⟩⟩)
      exact ⟨.ref s.heap.objs.size, _, I.laid (t' := s.toks) (o := .tup []) (fun b ob q => Heap.get?_push_of_some _ q) (Nat.le_refl _) ⟨Nat.zero_le _, [], .nil, IsTup.new _ _⟩, rfl, q2 hk _ (I.hok.fresh (Nat.le_refl _))⟩
def oMulT : D → D → Res D
  | .tuple l, .int k => Res.need (0 ≤ k ∧ k.natAbs ≤ 1000 ∧ l.length ≤ 1000) (.ok (.tuple (List.replicate k.toNat l).flatten))
  | _, _ => .stuck
theorem oMulT_ne (a b : D) : noExc (oMulT a b) := by
  unfold oMulT
  split
  · exact need_noExc ok_noExc
  · exact stuck_noExc
section
variable {K : Fg} {cl : Nat → Addr}
theorem sim_mulT : SimR K cl (rRepU K) oMulT := by
  intro x y a b σ H Q ra rb po
  unfold oMulT at po
  split at po
  · rename_i l k
    obtain rfl := rp_int rb
    obtain ⟨⟨h0, h1, h2⟩, po⟩ := need_on po
    have ra2 := ra
    unfold Rp at ra2
    obtain ⟨p, xs, rfl, hp, hx⟩ := ra2
    refine ⟨p, k, xs, rfl, rfl, SqT.of hp, h0, by omega, by rw [hx.length]; exact h2, fun e => ?_, fun e z hz => ?_, fun e z hz => ?_⟩
    · have e2 : (List.replicate k.toNat l).flatten = l := by
        rcases e with e | e
        · subst e
          have : l = [] := List.eq_nil_of_length_eq_zero hx.length.symm
          subst this
          simp
        · subst e
          simp
      rw [e2] at po
      exact po _ H (Same.refl H) ra (fresh_no rfl)
    · subst e
      have s := same_new (o := .tup []) hz
      exact po _ _ s (by unfold Rp; exact ⟨_, _, rfl, upd_same, by simpa using RpAll.nil⟩) (fresh_no rfl)
    · have s := same_new (o := .tup (List.replicate k.toNat xs).flatten) hz
      exact po _ _ s (by unfold Rp; exact ⟨_, _, rfl, upd_same, RpAll.rep (RpAll.mono s _ _ hx) _⟩) (fresh_no rfl)
  · exact po.elim
end
theorem q_mulT {X : Cx} {cl : Nat → Addr} {W : WX} {a b : Expr} {pos : Pos} {ta tb : TE} {f h : Dv → Res D} (ha : QE X cl W a ta f) (hb : QE X cl W b tb h) : QF X cl W (.BinOp a .Mult b pos) (tOp (rRepU X.K) ta tb) (d2 oMulT f h) := q_op op_repU sim_mulT oMulT_ne ha hb
@[simp] theorem oMulT_tk (l : List D) (k : Int) : oMulT (.tuple l) (.int k) = Res.need (0 ≤ k ∧ k.natAbs ≤ 1000 ∧ l.length ≤ 1000) (.ok (.tuple (List.replicate k.toNat l).flatten)) := rfl
end DL
namespace DL
open PySem L2
/-! ### split at a sign -/
/-- l cut at each c -/
def cutsAt (c : Nat) : List Nat → List Nat → List (List Nat)
  | acc, [] => [acc]
  | acc, x :: r => if x = c then acc :: cutsAt c [] r else cutsAt c (acc ++ [x]) r
theorem pre_one (c x : Nat) (r : List Nat) : TL.pre [c] (x :: r) = decide (x = c) := by
  unfold TL.pre
  rw [Bool.eq_iff_iff]
  simp
theorem spl_cuts (c : Nat) : ∀ (l acc : List Nat), TL.spl [c] 0 acc l = cutsAt c acc l
  | [], acc => rfl
  | x :: r, acc => by
    by_cases e : x = c
    · rw [TL.spl_hit (by rw [pre_one]; exact decide_eq_true e)]
      show acc :: TL.spl [c] 0 [] r = _
      rw [spl_cuts c r []]
      exact (if_pos e).symm
    · rw [TL.spl_miss (by rw [pre_one]; exact decide_eq_false e), spl_cuts c r]
      exact (if_neg e).symm
def mSplit (l : List Nat) (d : D) : Res D := match d with
  | .str [c] => Res.need (c < 256 ∧ l.length ≤ 100000) (.ok (.list ((cutsAt c [] l).map D.str)))
  | _ => .stuck
theorem mSplit_ne (l : List Nat) (d : D) : noExc (mSplit l d) := by
  unfold mSplit
  split
  · exact need_noExc ok_noExc
  · exact stuck_noExc
def rSplit : V → List V → Hp → VK → Prop := fun x xs H Q => ∃ a b : Str, x = .str a ∧ xs = [.str b] ∧ (b.length == 0) = false ∧ a.length + 2 ≤ sizeLine ∧ rNewStrs (Txt.split a b) H Q
theorem rp_strs {K : Fg} {H : Hp} : ∀ ys : List (List Nat), RpAll K H (ys.map D.str) ((ys.map S).map V.str)
  | [] => .nil
  | y :: ys => .cons (rps _) (rp_strs ys)
section
variable {X : Cx} {cl : Nat → Addr} {W : WX} {o a : Expr} {to ta : TE} {f h : Dv → Res D} {apos pos : Pos}
theorem sim_split {K : Fg} : SimM K cl rSplit mSplit := by
  intro y l b σ H Q rb po
  unfold mSplit at po
  split at po
  · rename_i c
    obtain ⟨⟨hc, hl⟩, po⟩ := need_on po
    obtain rfl := rp_str rb
    refine ⟨_, _, rfl, rfl, rfl, ?_, fun p hp => ?_⟩
    · rw [S_len, sizeLine_eq]
      omega
    · have e : Txt.split (S l) (S [c]) = (cutsAt c [] l).map S := by
        have z := SX.split_S (a := l) (b := [c]) (by simp) (by simpa using hc)
        rw [spl_cuts] at z
        exact z
      rw [e]
      have s := same_new (o := .lst (((cutsAt c [] l).map S).map V.str)) hp
      exact po _ _ s (rpl upd_same (rp_strs _)) (fresh_of hp)
  · exact po.elim
theorem q_split (ho : QE X cl W o to f) (ha : QE X cl W a ta h) (hs : starEach [a] X.env = [(false, eval a X.env)] := by rfl) (hbase : attributeBase o "split" X.env (eval o X.env) = eval o X.env := by rfl) (hline : (apos.endLine == pos.line) = true := by rfl) :
    QF X cl W (.Call (.Attribute o "split" apos) [a] [] pos) (tM1 rSplit to ta) (dM mSplit f h) :=
  ⟨pe_split ho.pe ha.pe hs hbase hline, tM1_sim ho.sim ha.sim sim_split mSplit_ne⟩
end
@[simp] theorem mSplit_at (l : List Nat) (c : Nat) : mSplit l (.str [c]) = Res.need (c < 256 ∧ l.length ≤ 100000) (.ok (.list ((cutsAt c [] l).map D.str))) := rfl
/-! ### numbers below 100 as texts, and back -/
def numL (n : Nat) : List Nat := if n < 10 then [48 + n] else [48 + n / 10, 48 + n % 10]
theorem num_all : ∀ n, n < 100 → (toString ((n : Nat) : Int) : Str) = S (numL n) := by
  have h : ∀ n, n < 100 → (Str.ofString (toString ((n : Nat) : Int))).cps.toList = numL n := by decide +kernel
  intro n hn
  have e := h n hn
  show Str.ofString (toString ((n : Nat) : Int)) = _
  exact TL.ext_tl (by rw [show TL.tl (Str.ofString (toString ((n : Nat) : Int))) = _ from e]; rfl)
def cStr : List D → Res D
  | [.int i] => Res.need (0 ≤ i ∧ i.natAbs < 100) (.ok (.str (numL i.toNat)))
  | _ => .stuck
def digs (l : List Nat) : Option Nat := match l with
  | [a] => if 48 ≤ a ∧ a ≤ 57 then some (a - 48) else none
  | [a, b] => if (48 ≤ a ∧ a ≤ 57) ∧ 48 ≤ b ∧ b ≤ 57 then some ((a - 48) * 10 + (b - 48)) else none
  | _ => none
def cIntS : List D → Res D
  | [.str l] => match digs l with
    | some n => .ok (.int (n : Int))
    | none => .stuck
  | _ => .stuck
theorem digs_ok {l : List Nat} {n : Nat} (h : digs l = some n) : PySem.intText? (S l) = some (n : Int) ∧ (S l).length ≤ 640 := by
  unfold digs at h
  split at h
  · rename_i a
    split at h
    · cases h
      have k : ∀ x, x < 10 → PySem.intText? (S [48 + x]) = some (x : Int) := by decide +kernel
      have := k (a - 48) (by omega)
      rw [show 48 + (a - 48) = a by omega] at this
      exact ⟨this, by rw [S_len]; simp⟩
    · cases h
  · rename_i a b
    split at h
    · cases h
      have k : ∀ x, x < 10 → ∀ y, y < 10 → PySem.intText? (S [48 + x, 48 + y]) = some ((x * 10 + y : Nat) : Int) := by decide +kernel
      have := k (a - 48) (by omega) (b - 48) (by omega)
      rw [show 48 + (a - 48) = a by omega, show 48 + (b - 48) = b by omega] at this
      exact ⟨this, by rw [S_len]; simp⟩
    · cases h
  · cases h
section
variable {X : Cx} {cl : Nat → Addr} {W : WX} {K : Fg}
theorem cStr_ne : noExcC cStr := fun ds => by
  unfold cStr
  split
  · exact need_noExc ok_noExc
  · exact stuck_noExc
theorem cIntS_ne : noExcC cIntS := fun ds => by
  unfold cIntS
  split
  · split
    · exact ok_noExc
    · exact stuck_noExc
  · exact stuck_noExc
theorem sim_strI : SimC K cl (fun xs H Q => ∃ i, xs = [.int i] ∧ i.natAbs.log2 < 1920 ∧ Q (.str (toString i)) H) cStr := by
  intro vs ds σ H Q r po
  unfold cStr at po
  split at po
  · rename_i i
    obtain ⟨⟨h0, h1⟩, po⟩ := need_on po
    obtain ⟨v, rfl, hv⟩ := r.one
    obtain rfl := rp_int hv
    obtain ⟨n, rfl⟩ := Int.eq_ofNat_of_zero_le h0
    refine ⟨_, rfl, ?_, ?_⟩
    · have hn : n < 100 := h1
      have k : ∀ n, n < 100 → (n : Nat).log2 < 1920 := by decide +kernel
      exact k n hn
    · rw [num_all n h1]
      exact po _ H (Same.refl H) (rps _) (fresh_no rfl)
  · exact po.elim
theorem sim_intS : SimC K cl (fun xs H Q => ∃ (a : Str) (n : Int), xs = [.str a] ∧ PySem.intText? a = some n ∧ a.length ≤ 640 ∧ Q (.int n) H) cIntS := by
  intro vs ds σ H Q r po
  unfold cIntS at po
  split at po
  · split at po
    · rename_i l n hn
      obtain ⟨v, rfl, hv⟩ := r.one
      obtain rfl := rp_str hv
      obtain ⟨h1, h2⟩ := digs_ok hn
      exact ⟨_, _, rfl, h1, h2, po _ H (Same.refl H) (rpi _) (fresh_no rfl)⟩
    · exact po.elim
  · exact po.elim
variable {e : Expr} {es : List Expr} {p pos : Pos} {tr : TA} {gs : Dv → Res (List D)}
theorem q_strI (hm : X.mg "str" = none) (ha : QA X cl W (e :: es) tr gs) (hg : Gl X "str" := by rfl) (he : starEach (e :: es) X.env = (false, eval e X.env) :: starEach es X.env := by rfl) (hpl : (backTo pos (starEach es X.env)).any (·.1) = false := by rfl) :
    QF X cl W (.Call (.Name "str" p) (e :: es) [] pos) (tCB (fun xs H Q => ∃ i, xs = [.int i] ∧ i.natAbs.log2 < 1920 ∧ Q (.str (toString i)) H) tr) (fun δ => (gs δ).bind cStr) := q_callTy call_str_int sim_strI cStr_ne hg hm PyProof.Rows.boot_str ha (by decide) (by decide) he hpl
theorem q_intS (hm : X.mg "int" = none) (ha : QA X cl W (e :: es) tr gs) (hg : Gl X "int" := by rfl) (he : starEach (e :: es) X.env = (false, eval e X.env) :: starEach es X.env := by rfl) (hpl : (backTo pos (starEach es X.env)).any (·.1) = false := by rfl) :
    QF X cl W (.Call (.Name "int" p) (e :: es) [] pos) (tCB (fun xs H Q => ∃ (a : Str) (n : Int), xs = [.str a] ∧ PySem.intText? a = some n ∧ a.length ≤ 640 ∧ Q (.int n) H) tr) (fun δ => (gs δ).bind cIntS) := q_callTy call_int_str sim_intS cIntS_ne hg hm PyProof.Rows.boot_int ha (by decide) (by decide) he hpl
end
@[simp] theorem cStr_at (i : Int) : cStr [.int i] = Res.need (0 ≤ i ∧ i.natAbs < 100) (.ok (.str (numL i.toNat))) := rfl
/-! ### constants of the top -/
def GS (mg : Str → Option Value) (x y : Str) : Prop := ∃ t, mg x = some (.str y t)
def GI (mg : Str → Option Value) (x : Str) (i : Int) : Prop := ∃ t, mg x = some (.int i t)
section
variable {X : Cx} {cl : Nat → Addr} {W : WX} {x : Str} {pos : Pos}
theorem q_globS {y : Str} (h : GS X.mg x y) (hg : Gl X x := by rfl) (hd : (x == ("__debug__" : Str)) = false := by decide) : QF X cl W (.Name x pos) (tC (.str y)) (dC (.str y.cps.toList)) := by
  obtain ⟨t, h⟩ := h
  exact q_c (pe_glob hg h ⟨t, rfl⟩ hd) fun _ => by unfold Rp; rfl
theorem q_globI {i : Int} (h : GI X.mg x i) (hg : Gl X x := by rfl) (hd : (x == ("__debug__" : Str)) = false := by decide) : QF X cl W (.Name x pos) (tC (.int i)) (dC (.int i)) := by
  obtain ⟨t, h⟩ := h
  exact q_c (pe_glob hg h ⟨t, rfl⟩ hd) fun _ => by unfold Rp; rfl
end
end DL
namespace DL
open PySem L2
/-! ### zip of a text and a tuple, in a comprehension -/
def ItZT (K : Fg) (x : Str) (b : Addr) (ys : List V) : It :=
  ⟨fun i H => SqT K H b ys ∧ i < x.cps.size ∧ i < ys.length,
    fun i H v H2 => ∃ T c y, v = .ref T ∧ H T = none ∧ x.cps[i]? = some c ∧ ys[i]? = some y ∧ H2 = upd H T (.tup [.str ⟨#[c]⟩, y]),
    fun i H => SqT K H b ys ∧ (x.cps.size ≤ i ∨ ys.length ≤ i)⟩
theorem turn_zipZT {P : Program} {w : World} {K : Fg} {elts : List Expr} {kk : Nat} {tpos : Pos} (x : Str) (tx : Tok) {b : Addr} {ys : List V} {z TI TO i1 i2 : Addr} (D : ZipSep2 z TI TO i1 i2 [i1] [i2, b]) (hbi : b ≠ i2) :
    Turn P w K (.Tuple elts kk tpos) (ItZT K x b ys) [z, TI, TO, i1, i2] z (fun i h => (i ≤ x.cps.size ∧ i ≤ ys.length) ∧ IsZip h z TI TO .none ∧ IsTupOf2 h TI (.ref i1) (.ref i2) ∧ (∃ a c, IsTupOf2 h TO a c) ∧ h.IsStrIter i1 (strIterType x) x tx i ∧ h.IsTupleIter i2 b i) where
  mem := by simp
  obj := fun i h st c hc => by
    obtain ⟨_, hz, hTI, ⟨a, b0, hTO⟩, ⟨o1, e1, _, d1⟩, ⟨o2, e2, _, d2⟩⟩ := st
    have e3 : c = z ∨ c = TI ∨ c = TO ∨ c = i1 ∨ c = i2 := by simpa using hc
    rcases e3 with rfl | rfl | rfl | rfl | rfl
    · exact ⟨_, hz, fun v q => nomatch q⟩
    · exact ⟨_, hTI, fun v q => nomatch q⟩
    · exact ⟨_, hTO, fun v q => nomatch q⟩
    · exact ⟨o1, e1, fun v q => by rw [d1] at q; cases q⟩
    · exact ⟨o2, e2, fun v q => by rw [d2] at q; cases q⟩
  keep := fun i h h2 st k => by
    obtain ⟨hl, hz, hTI, ⟨a, b0, hTO⟩, ⟨o1, e1, c1⟩, hi2⟩ := st
    exact ⟨hl, k z (by simp) _ hz, k TI (by simp) _ hTI, ⟨a, b0, k TO (by simp) _ hTO⟩, ⟨o1, k i1 (by simp) o1 e1, c1⟩, hi2.at fun o q => k i2 (by simp) o q⟩
  item := by
    intro X hP hw hK hc i pins s σ H E I hf st hg
    subst hP hw hK
    obtain ⟨_, hz, hTI, ⟨a0, b0, hTO⟩, h1, h2⟩ := st
    obtain ⟨hq, g1, g2⟩ := hg
    obtain ⟨its, rv, p, _⟩ := I.tuple hq
    have hlen : its.length = ys.length := rv.length.symm
    have hzl : z < s.heap.objs.size := Heap.lt_size hz
    refine wpAny_pyNext_zipD2_item D (Draws.text (A := X.A.in1) (I.ok.hd hc) i1 x tx) (Draws.tuple (A := X.A.in1) (I.ok.hd hc) i2 b hbi its.toArray) hz hTI hTO h1 ⟨h2, p⟩ g1 (by rw [List.size_toArray, hlen]; exact g2) fun v1 v2 h3 tk p1 p2 z3 TO3 h13 h23 hT hsz hk => ?_
    obtain ⟨c, u, hcx, rfl⟩ := p1
    have p2' : its[i]? = some v2 := by simpa using p2
    obtain ⟨y, hy, ry⟩ := vals_at rv p2'
    refine ⟨_, rfl, wpAny_letOwnedTupleGo_zip (s := { s with heap := h3, toks := tk }) z3 fun h4 z4 sb => ?_⟩
    have hT2 : h4.get? s.heap.objs.size = some { cls := .type "tuple", data := .seq #[.str ⟨#[c]⟩ u, v2] } := (sb.2 _ (Nat.ne_of_gt hzl)).trans hT
    have new : ObjOk X.prog X.w (upd H s.heap.objs.size (.tup [.str ⟨#[c]⟩, y])) h4 s.heap.objs.size (.tup [.str ⟨#[c]⟩, y]) :=
      ⟨by show 2 ≤ sizeLine; decide, [.str ⟨#[c]⟩ u, v2], .cons ⟨_, rfl⟩ (.cons ry .nil), ⟨_, hT2, rfl, _, rfl⟩⟩
    have I1 : Inv X pins σ (upd H s.heap.objs.size (.tup [.str ⟨#[c]⟩, y])) { s with heap := h4, toks := tk } :=
      I.turnedNew (ch := [z, TI, TO, i1, i2]) (fun b2 o hb q => (sb.2 b2 (fun e => hb (by simp [e]))).trans (hk b2 o (fun e => hb (by simp [e])) (fun e => hb (by simp [e])) (fun e => hb (by simp [e])) (fun e => hb (by simp [e])) q)) hf (Nat.le_refl _) new
    refine ⟨.ref s.heap.objs.size, _, I1, rfl, ⟨_, c, y, rfl, I.hok.fresh (Nat.le_refl _), hcx, hy, rfl⟩, ⟨⟨g1, g2⟩, z4, ?_, ⟨.str ⟨#[c]⟩ u, v2, ?_⟩, ?_, ?_⟩, fun b2 hb => ?_⟩
    · exact (sb.2 _ D.TIz).trans (hk _ _ D.TIz D.TITO D.TIi1 D.TIi2 hTI)
    · exact (sb.2 _ D.TOz).trans TO3
    · obtain ⟨o, q, r⟩ := h13
      exact ⟨o, (sb.2 _ (Ne.symm D.zi1)).trans q, r⟩
    · obtain ⟨o, q, r⟩ := h23.1
      exact ⟨o, (sb.2 _ (Ne.symm D.zi2)).trans q, r⟩
    · have hlt : b2 < s.heap.objs.size := by
        have e3 : b2 = z ∨ b2 = TI ∨ b2 = TO ∨ b2 = i1 ∨ b2 = i2 := by simpa using hb
        rcases e3 with q | q | q | q | q
        · rw [q]; exact hzl
        · rw [q]; exact Heap.lt_size hTI
        · rw [q]; exact Heap.lt_size hTO
        · rw [q]; obtain ⟨_, e1, _⟩ := h1; exact Heap.lt_size e1
        · rw [q]; obtain ⟨_, e2, _⟩ := h2; exact Heap.lt_size e2
      rw [upd_ne (Nat.ne_of_lt hlt)]
      exact (hf b2 hb).1
  done := by
    intro X hP hw hK hc i pins s σ H E I hf st hg
    subst hP hw hK
    obtain ⟨⟨l1, l2⟩, hz, hTI, ⟨a0, b0, hTO⟩, h1, h2⟩ := st
    obtain ⟨hq, hg⟩ := hg
    obtain ⟨its, rv, p, _⟩ := I.tuple hq
    have hlen : its.toArray.size = ys.length := by rw [List.size_toArray]; exact rv.length.symm
    have he : i = x.cps.size ∨ i = its.toArray.size := by
      rw [hlen]
      rcases hg with q | q
      · exact .inl (Nat.le_antisymm l1 q)
      · exact .inr (Nat.le_antisymm l2 q)
    exact wpAny_pyNext_zipD2_end D (Draws.text (A := X.A.in1) (I.ok.hd hc) i1 x tx) (Draws.tuple (A := X.A.in1) (I.ok.hd hc) i2 b hbi its.toArray) hz hTI hTO h1 ⟨h2, p⟩ l1 (by rw [hlen]; exact l2) he fun h3 tk hk => ⟨rfl, I.turnedL (t' := tk) (ch := [z, TI, TO, i1, i2]) (fun b2 o hb q =>
      hk b2 o (fun e => hb (by simp [e])) (fun e => hb (by simp [e])) (fun e => hb (by simp [e])) (fun e => hb (by simp [e])) q) hf⟩
  self := fun A i s Q E st h => wpAny_pyIter_zip st.2.1 h
theorem zipSep6 {n b : Nat} (h : b < n) : ZipSep2 (n + 4) (n + 2) (n + 3) n (n + 1) [n] [n + 1, b] where
  TIz := (by omega : ¬ (n + 2 : Nat) = n + 4)
  TOz := (by omega : ¬ (n + 3 : Nat) = n + 4)
  TITO := (by omega : ¬ (n + 2 : Nat) = n + 3)
  TIi1 := (by omega : ¬ (n + 2 : Nat) = n)
  mem1 := by simp
  zf1 := by simp
  Tf1 := by simp
  TIi2 := (by omega : ¬ (n + 2 : Nat) = n + 1)
  mem2 := by simp
  zf2 := by
    intro z
    have e : n + 4 = n + 1 ∨ n + 4 = b := by simpa using z
    omega
  Tf2 := by
    intro z
    have e : n + 3 = n + 1 ∨ n + 3 = b := by simpa using z
    omega
  sep1_2 := by
    intro z
    have e : n = n + 1 ∨ n = b := by simpa using z
    omega
  sep2_1 := by
    intro z
    have e : n + 1 = n := by simpa using z
    omega
def iZipTA (K : Fg) (ta : TA) : TI := fun σ H R => ta σ H fun vs H1 => ∃ (x : Str) (b : Addr) (ys : List V), vs = [.str x, .ref b] ∧ SqT K H1 b ys ∧ R (ItZT K x b ys) H1
theorem pi_zipTA {X : Cx} {e e2 : Expr} {ta : TA} {p pos tpos : Pos} {elts : List Expr} {kk : Nat} (hg : Gl X "zip") (hm : X.mg "zip" = none) (ha : PA X [e, e2] ta)
    (hs : starEach [e, e2] X.env = (false, eval e X.env) :: starEach [e2] X.env := by rfl) (hpl : (backTo pos (starEach [e2] X.env)).any (·.1) = false := by rfl) :
    PI X (.Tuple elts kk tpos) (.Call (.Name "zip" p) [e, e2] [] pos) (iZipTA X.K ta) := by
  refine ⟨fun pins s σ H R I h => ?_⟩
  refine PyProof.Rows.Call_ (ld_blt I hg hm PyProof.Rows.boot_zip (PyProof.Rows.callWith_type1 (thn (ha.run pos pins s σ H _ I h) fun us s1 ⟨vs, H1, I1, r1, q1⟩ => ?_) hs hpl))
  obtain ⟨x, b, ys, rfl, hq, q⟩ := q1
  cases r1 with
  | cons r rr =>
    cases rr with
    | cons r2 rr =>
      cases rr
      obtain ⟨t, rfl⟩ := r
      cases r2
      obtain ⟨its, rv, pt, _⟩ := I1.tuple hq
      have hb : b < s1.heap.objs.size := by
        obtain ⟨_, e1, _⟩ := pt
        exact Heap.lt_size e1
      have low : ∀ c, c ∈ [s1.heap.objs.size + 4, s1.heap.objs.size + 2, s1.heap.objs.size + 3, s1.heap.objs.size, s1.heap.objs.size + 1] → s1.heap.objs.size ≤ c := fun c hcm => by
        have e3 : c = s1.heap.objs.size + 4 ∨ c = s1.heap.objs.size + 2 ∨ c = s1.heap.objs.size + 3 ∨ c = s1.heap.objs.size ∨ c = s1.heap.objs.size + 1 := by simpa using hcm
        rcases e3 with rfl | rfl | rfl | rfl | rfl
        · exact Nat.le_add_right _ _
        · exact Nat.le_add_right _ _
        · exact Nat.le_add_right _ _
        · exact Nat.le_refl _
        · exact Nat.le_add_right _ _
      refine zip_begins2 (begins_text x t) (begins_tuple b its.toArray) trivial pt fun h2 hz hTI hTO h1 h22 hsz hk => wpAny_pyIter_zip hz ?_
      exact ⟨s1.heap.objs.size + 4, [s1.heap.objs.size + 4, s1.heap.objs.size + 2, s1.heap.objs.size + 3, s1.heap.objs.size, s1.heap.objs.size + 1], _, _, H1, rfl, I1.kept (t' := s1.toks) hk, turn_zipZT x t (zipSep6 hb) (Nat.ne_of_lt (Nat.lt_succ_of_lt hb)),
        ⟨⟨Nat.zero_le _, Nat.zero_le _⟩, hz, hTI, ⟨_, _, hTO⟩, ⟨_, h1, rfl, rfl⟩, ⟨_, h22, rfl, rfl⟩⟩, fun c hcm => I1.fpOk (low c hcm) (I1.hok.fresh (low c hcm)), q⟩
theorem walkD_zZT {K : Fg} {B : Hp} {b : Addr} {ys : List V} {m : List D} (l : List Nat) (h : SqT K B b ys) (r : RpAll K B m ys) : WalkD K B (ItZT K (S l) b ys) (zipD (l.map fun c => .str [c]) m) := by
  have e : min (S l).cps.size ys.length = (zipD (l.map fun c => (D.str [c])) m).length := by rw [zipD_len, r.length]; simp [S]
  refine ⟨fun H => SqT K H b ys, fun i H v H2 => ∃ T c y, v = .ref T ∧ H T = none ∧ (S l).cps[i]? = some c ∧ ys[i]? = some y ∧ H2 = upd H T (.tup [.str ⟨#[c]⟩, y]), ⟨fun i H hi g => ?_, fun H g => ?_, fun i H x H2 hi _ y => y⟩, fun H s => same_t s h, fun i H x H2 hi s y => ?_⟩
  · refine ⟨g, ?_⟩
    rw [← e] at hi
    omega
  · refine ⟨g, ?_⟩
    rw [← e]
    omega
  · obtain ⟨T, c, y, rfl, hT, hc, hy, rfl⟩ := y
    have e2 : l[i]? = some c := by simpa [S] using hc
    obtain ⟨d, hd, rd⟩ := r.get hy
    have sm := same_new (H := H) (o := .tup [.str ⟨#[c]⟩, y]) hT
    refine ⟨sm, _, zipD_get (a := .str [c]) (b := d) (by rw [List.getElem?_map, e2]; rfl) hd, ?_⟩
    exact rpt upd_same (.cons (by unfold Rp; rfl) (.cons (Rp.mono (s.trans sm) _ _ rd) .nil))
section
variable {X : Cx} {cl : Nat → Addr} {W : WX} {e e2 : Expr} {ta : TA} {gs : Dv → Res (List D)} {p pos tpos : Pos} {elts : List Expr} {kk : Nat}
def iZipT : List D → Res (List D)
  | [.str l, .tuple m] => .ok (zipD (l.map fun c => .str [c]) m)
  | _ => .stuck
@[simp] theorem iZipT_at (l : List Nat) (m : List D) : iZipT [.str l, .tuple m] = .ok (zipD (l.map fun c => .str [c]) m) := rfl
theorem j_zipT (hm : X.mg "zip" = none) (ha : QA X cl W [e, e2] ta gs) (hg : Gl X "zip" := by rfl) (hs : starEach [e, e2] X.env = (false, eval e X.env) :: starEach [e2] X.env := by rfl) (hpl : (backTo pos (starEach [e2] X.env)).any (·.1) = false := by rfl) :
    QJ X cl W (.Tuple elts kk tpos) (.Call (.Name "zip" p) [e, e2] [] pos) (iZipTA X.K ta) (fun δ => (gs δ).bind iZipT) := by
  refine ⟨pi_zipTA hg hm ha.pe hs hpl, fun δ σ H R en po => ?_⟩
  show ta σ H _
  refine ha.sim δ σ H _ en ?_
  change ((gs δ).bind iZipT).on _ _ at po
  cases r : gs δ with
  | exc c => rw [r] at po; exact po
  | stuck => rw [r] at po; exact po
  | ok ds =>
    rw [r, Res.ok_bind] at po
    intro vs H1 s rp
    unfold iZipT at po
    split at po
    · obtain ⟨v, w, rfl, hv, hw⟩ := rp.two
      obtain rfl := rp_str hv
      obtain ⟨b, ys, rfl, h2, hy⟩ := rp_tup hw
      exact ⟨_, b, ys, rfl, h2, po _ H1 s (walkD_zZT _ h2 hy)⟩
    · exact po.elim
end
end DL
namespace DL
open PySem L2
/-! ### a dict while a loop walks it -/
theorem rd_one {G : Hp} {a : Addr} {u w : HO} (h : Rd G a u) (g : Rd G a w) (nu : ∀ o z, u ≠ .frz o z) (nw : ∀ o z, w ≠ .frz o z) : u = w := by
  rcases h with h | ⟨o, h⟩ <;> rcases g with g | ⟨q, g⟩ <;> rw [h] at g
  · exact Option.some.inj g
  · exact (nu _ _ (Option.some.inj g)).elim
  · exact (nw _ _ (Option.some.inj g).symm).elim
  · cases g; rfl
theorem rd_ne {G : Hp} {a b : Addr} {kvs : List (Key × V)} {o : HO} (h : Rd G a (.dK kvs)) (g : G b = some o) (n1 : ∀ q z, o ≠ .frz q z) (n2 : ∀ k, o ≠ .dK k) : b ≠ a := fun e => by
  subst e
  exact n2 _ (rd_one h (.inl g) (by intro _ _ z; cases z) n1).symm
section
variable {K : Fg} {G G' : Hp} {a : Addr} {kvs : List (Key × V)}
mutual
theorem Rp.swap (ne : ∀ b, b ≠ a → G' b = G b) (h1 : Rd G a (.dK kvs)) (h2 : Rd G' a (.dK kvs)) : ∀ (d : D) (v : V), Rp K G d v → Rp K G' d v
  | .none, _, h => by unfold Rp at h ⊢; exact h
  | .bool _, _, h => by unfold Rp at h ⊢; exact h
  | .int _, _, h => by unfold Rp at h ⊢; exact h
  | .str _, _, h => by unfold Rp at h ⊢; exact h
  | .list l, _, h => by
    unfold Rp at h ⊢
    obtain ⟨b, xs, hv, hb, hx⟩ := h
    have q := rd_ne h1 hb (by intro _ _ z; cases z) (by intro _ z; cases z)
    exact ⟨b, xs, hv, by rw [ne b q]; exact hb, RpAll.swap ne h1 h2 l xs hx⟩
  | .tuple l, _, h => by
    unfold Rp at h ⊢
    obtain ⟨b, xs, hv, hb, hx⟩ := h
    have q := rd_ne h1 hb (by intro _ _ z; cases z) (by intro _ z; cases z)
    exact ⟨b, xs, hv, by rw [ne b q]; exact hb, RpAll.swap ne h1 h2 l xs hx⟩
  | .dicK ks vs, _, h => by
    unfold Rp at h ⊢
    obtain ⟨b, xs, hv, hb, hk, hx⟩ := h
    refine ⟨b, xs, hv, ?_, hk, RpAll.swap ne h1 h2 vs _ hx⟩
    by_cases e : b = a
    · subst e
      cases rd_one h1 hb (by intro _ _ z; cases z) (by intro _ _ z; cases z)
      exact h2
    · rcases hb with hb | ⟨o, hb⟩
      · exact .inl (by rw [ne b e]; exact hb)
      · exact .inr ⟨o, by rw [ne b e]; exact hb⟩
  | .dicT ks vs, _, h => by
    unfold Rp at h ⊢
    obtain ⟨b, xs, hv, hb, hk, hx⟩ := h
    refine ⟨b, xs, hv, ?_, hk, RpAll.swap ne h1 h2 vs _ hx⟩
    by_cases e : b = a
    · subst e
      cases rd_one h1 hb (by intro _ _ z; cases z) (by intro _ _ z; cases z)
    · rcases hb with hb | ⟨o, hb⟩
      · exact .inl (by rw [ne b e]; exact hb)
      · exact .inr ⟨o, by rw [ne b e]; exact hb⟩
  | .scr ns, _, h => by
    unfold Rp at h ⊢
    obtain ⟨b, hv, hb⟩ := h
    refine ⟨b, hv, ?_⟩
    rcases hb with hb | hb
    · refine .inl ?_
      by_cases e : b = a
      · subst e
        cases rd_one h1 hb (by intro _ _ z; cases z) (by intro _ _ z; cases z)
      · rcases hb with hb | ⟨o, hb⟩
        · exact .inl (by rw [ne b e]; exact hb)
        · exact .inr ⟨o, by rw [ne b e]; exact hb⟩
    · exact .inr hb
  | .adr _, _, h => by unfold Rp at h ⊢; exact h
  | .obj b ft c fs, _, h => by
    unfold Rp at h ⊢
    rcases h with ⟨hv, ⟨n, dx, C, gs, q1, q2, q3, q4, q5, q6⟩ | ⟨n, ns, q1, q2⟩ | ⟨n, q0, vs, q1, q2, q3, q4⟩⟩
    · have n1 := rd_ne h1 q2 (by intro _ _ z; cases z) (by intro _ z; cases z)
      have n2 := rd_ne h1 q3 (by intro _ _ z; cases z) (by intro _ z; cases z)
      exact ⟨hv, .inl ⟨n, dx, C, gs, q1, by rw [ne b n1]; exact q2, by rw [ne dx n2]; exact q3, q4, q5, RpAll.swap ne h1 h2 fs _ q6⟩⟩
    · refine ⟨hv, .inr (.inl ⟨n, ns, q1, ?_⟩)⟩
      rcases q2 with ⟨z1, z2⟩ | ⟨z1, ⟨o, z2⟩ | z2⟩
      · have nb := rd_ne h1 z2 (by intro _ _ z; cases z) (by intro _ z; cases z)
        exact .inl ⟨z1, by rw [ne b nb]; exact z2⟩
      · have nb : b ≠ a := fun z => by
          subst z
          rcases h1 with h1 | ⟨o2, h1⟩ <;> rw [z2] at h1 <;> cases h1
        exact .inr ⟨z1, .inl ⟨o, by rw [ne b nb]; exact z2⟩⟩
      · exact .inr ⟨z1, .inr z2⟩
    · have n1 := rd_ne h1 q2 (by intro _ _ z; cases z) (by intro _ z; cases z)
      exact ⟨hv, .inr (.inr ⟨n, q0, vs, q1, by rw [ne b n1]; exact q2, RpAll.swap ne h1 h2 fs _ q3, q4⟩)⟩
  | .fzl l, _, h => by
    unfold Rp at h ⊢
    obtain ⟨b, o, xs, hv, hb, hx⟩ := h
    have nb : b ≠ a := fun z => by
      subst z
      rcases h1 with h1 | ⟨o2, h1⟩ <;> rw [hb] at h1 <;> cases h1
    exact ⟨b, o, xs, hv, by rw [ne b nb]; exact hb, RpAll.swap ne h1 h2 l xs hx⟩
theorem RpAll.swap (ne : ∀ b, b ≠ a → G' b = G b) (h1 : Rd G a (.dK kvs)) (h2 : Rd G' a (.dK kvs)) : ∀ (ds : List D) (vs : List V), RpAll K G ds vs → RpAll K G' ds vs
  | [], _, h => by unfold RpAll at h ⊢; exact h
  | d :: ds, _, h => by
    unfold RpAll at h ⊢
    obtain ⟨v, r, hv, q1, q2⟩ := h
    exact ⟨v, r, hv, Rp.swap ne h1 h2 d v q1, RpAll.swap ne h1 h2 ds r q2⟩
end
end
/-- a for over a dict of slot i, which no turn changes; it ends by its end (or a break) -/
def gForK (i : Nat) (k : D → Env → Option Env) (g : DS) : DS := fun d ε => ∃ ks vs, ε[i]? = some (some (.fz (.dicK ks vs))) ∧ ∃ I : Nat → Env → Prop, I 0 ε ∧
  (∀ j x ε', (ks.map keyDD)[j]? = some x → I j ε' → imm x = true ∧ ∃ ε2, k x ε' = some ε2 ∧ g { nx := I (j + 1), rt := fun _ => False, ct := I (j + 1), bk := d.nx } ε2) ∧ ∀ ε', I (ks.map keyDD).length ε' → d.nx ε'
def tLk (t : TS) : TS := fun D σ H => tLock t D σ H ∨ t D σ H
section
variable {X : Cx} {cl : Nat → Addr} {W : WX} {tg iter : Expr} {body : List Stmt} {g : TG} {tb : TS} {k : D → Env → Option Env} {gb : DS} {pos : Pos}
theorem forK_core (hg : QG X tg g k) (hb : QSs X cl W body tb gb) {i : Nat} {B H : Hp} {ε : Env} {σ : L2.St} {a : Addr} {od : Obj} {kvs : List (Key × V)} {d : DE} {D1 : Ends} {I : Nat → Env → Prop} (q : SQ X.K B ε σ H) (hB : B a = some (.frz od (.dK kvs))) (hσ : σ[i]? = some (some (.ref a))) (i0 : I 0 ε)
    (step : ∀ j x ε', ((kvs.map (·.1)).map keyDD)[j]? = some x → I j ε' → imm x = true ∧ ∃ ε2, k x ε' = some ε2 ∧ gb { nx := I (j + 1), rt := fun _ => False, ct := I (j + 1), bk := d.nx } ε2)
    (nx : ∀ ε' σ' H', SQ X.K B ε' σ' H' → d.nx ε' → D1.nx σ' H') (fin : ∀ ε', I ((kvs.map (·.1)).map keyDD).length ε' → d.nx ε') : tFor (iKeys (tVar i)) g tb D1 σ H := by
  show ∃ v, σ[i]? = some (some v) ∧ _
  refine ⟨.ref a, hσ, a, od, rfl, .inl ⟨kvs, q.1.same a _ hB, ?_⟩⟩
  refine for_it (walk_keys (d := a) (o := od) (kvs := kvs)) (fun j σ' H' => ∃ ε', SQ X.K B ε' σ' H' ∧ I j ε') ⟨ε, q, i0⟩ (fun j σ' H' _ ⟨ε', q', _⟩ => q'.1.same a _ hB) (fun j x σ' H' H2 hj ⟨ε', q', i'⟩ y => ?_) (fun σ' H' ⟨ε', q', i'⟩ => ?_)
  · obtain ⟨rfl, kk, v, hk, rfl⟩ := y
    have hx : ((kvs.map (·.1)).map keyDD)[j]? = some (keyDD kk) := by rw [List.getElem?_map, List.getElem?_map, hk]; rfl
    obtain ⟨im, ε2, hk2, hgb⟩ := step j _ ε' hx i'
    have rp : Rp X.K H2 (keyDD kk) (kV kk) := by
      obtain ⟨v', r', e, h1, h2⟩ : ∃ v r, [kV kk] = v :: r ∧ Rp X.K H2 (keyDD kk) v ∧ RpAll X.K H2 [] r := by
        have := keysDD_rp (K := X.K) (H := H2) [kk]
        rw [List.map_cons, List.map_nil, List.map_cons, List.map_nil] at this
        unfold RpAll at this
        exact this
      cases e
      exact h1
    refine hg.sim B H2 H2 ε' ε2 σ' (keyDD kk) (kV kk) _ q' (Same.refl _) rp im hk2 fun σ2 q2 => ?_
    exact hb.sim B { nx := I (j + 1), rt := fun _ => False, ct := I (j + 1), bk := d.nx } _ ε2 σ2 H2 ⟨fun ε σ H a b => ⟨ε, a, b⟩, fun _ _ _ _ _ _ z => z.elim, fun _ _ _ _ _ z => z.elim, nx, fun ε σ H a b => ⟨ε, a, b⟩⟩ q2 hgb
  · refine nx ε' σ' H' q' (fin ε' ?_)
    rw [List.length_map, List.length_map]
    exact i'
theorem s_forK {i : Nat} (hp : PassesOwn (model X.prog X.w) X.A X.env X.xe) (hc : X.calm = true) (ho : PE X iter (tVar i)) (hg : QG X tg g k) (hb : QSs X cl W body tb gb)
    (hs : ∀ x, foldedSetIterable iter X.env x = pure x := by intro _; rfl) : QS X cl W (.For tg iter body [] pos) (tLk (tFor (iKeys (tVar i)) g tb)) (gForK i k gb) := by
  have p0 := ps_for hp hc (pi_keys (tg := tg) ho) hg.pg hb.ps hs (pos := pos)
  refine ⟨⟨fun pins s σ H D I h => ?_⟩, fun H0 d D' ε σ H en q h => ?_⟩
  · rcases h with h | h
    · exact (ps_lock p0).run pins s σ H D I h
    · exact p0.run pins s σ H D I h
  obtain ⟨ks, vs, hi, I, i0, step, fin⟩ := h
  obtain ⟨⟨M, t1, b, f0, o, n⟩, len⟩ := id q
  obtain ⟨v, h1, h2⟩ := f0 i _ hi
  unfold Rp at h2
  obtain ⟨a, kvs, rfl, ha, rfl, hv⟩ := h2
  have am : a ∉ M := fun z => by
    rcases ha with ha | ⟨od, ha⟩ <;> (unfold DL.hide at ha; rw [if_pos z] at ha; cases ha)
  rcases ha with ha | ⟨od, ha⟩
  · have haH : H a = some (.dK kvs) := by rw [hide_ne am] at ha; exact ha
    refine .inl ⟨a, .dK kvs, haH, trivial, fun od => ?_⟩
    have ne1 : ∀ c, c ≠ a → upd H a (.frz od (.dK kvs)) c = H c := fun c hc => upd_ne hc
    have ne2 : ∀ c, c ≠ a → hide (upd H a (.frz od (.dK kvs))) M c = hide H M c := fun c hc => by
      unfold DL.hide
      by_cases q : c ∈ M
      · rw [if_pos q, if_pos q]
      · rw [if_neg q, if_neg q, upd_ne hc]
    have rB : hide (upd H a (.frz od (.dK kvs))) M a = some (.frz od (.dK kvs)) := by rw [hide_ne am, upd_same]
    have q1 : SQ X.K (hide (upd H a (.frz od (.dK kvs))) M) ε σ (upd H a (.frz od (.dK kvs))) := by
      refine ⟨⟨M, Same.refl _, fun c hc => ?_, fun j e he => ?_, fun j e he => ?_, n⟩, len⟩
      · have hca : c ≠ a := fun z => am (by rw [← z]; exact hc)
        obtain ⟨u, z, m⟩ := b c hc
        exact ⟨u, by rw [ne1 c hca]; exact z, m⟩
      · obtain ⟨u, u1, u2⟩ := f0 j e he
        exact ⟨u, u1, Rp.swap ne2 (.inl ha) (.inr ⟨od, rB⟩) _ _ u2⟩
      · obtain ⟨c, w1, w2, w3, w4, w5⟩ := o j e he
        exact ⟨c, w1, w2, w3, w4, Rp.swap ne1 (.inl haH) (.inr ⟨od, upd_same⟩) _ _ w5⟩
    refine forK_core hg hb (d := d) q1 rB h1 i0 step (fun ε' σ' H' q' hn => ⟨q'.1.same a _ rB, en.nx ε' σ' _ ?_ hn⟩) fin
    obtain ⟨⟨M2, s2, b2, f2, o2, n2⟩, len2⟩ := q'
    have sa := s2 a _ rB
    have am2 : a ∉ M2 := fun z => by unfold DL.hide at sa; rw [if_pos z] at sa; cases sa
    have ha2 : H' a = some (.frz od (.dK kvs)) := by have z := sa; rw [hide_ne am2] at z; exact z
    have ne3 : ∀ c, c ≠ a → upd H' a (.dK kvs) c = H' c := fun c hc => upd_ne hc
    have ne4 : ∀ c, c ≠ a → hide (upd H' a (.dK kvs)) M2 c = hide H' M2 c := fun c hc => by
      unfold DL.hide
      by_cases q : c ∈ M2
      · rw [if_pos q, if_pos q]
      · rw [if_neg q, if_neg q, upd_ne hc]
    have ra3 : hide (upd H' a (.dK kvs)) M2 a = some (.dK kvs) := by rw [hide_ne am2, upd_same]
    refine ⟨⟨M2, fun c u hc => ?_, fun c hc => ?_, fun j e he => ?_, fun j e he => ?_, n2⟩, len2⟩
    · have e1 := t1 c u hc
      by_cases z : c = a
      · subst z
        rw [ha] at e1
        rw [ra3]
        exact e1
      · rw [← ne2 c z] at e1
        rw [ne4 c z]
        exact s2 c u e1
    · have hca : c ≠ a := fun z => am2 (by rw [← z]; exact hc)
      obtain ⟨u, z, m⟩ := b2 c hc
      exact ⟨u, by rw [ne3 c hca]; exact z, m⟩
    · obtain ⟨u, u1, u2⟩ := f2 j e he
      exact ⟨u, u1, Rp.swap ne4 (.inr ⟨od, sa⟩) (.inl ra3) _ _ u2⟩
    · obtain ⟨c, w1, w2, w3, w4, w5⟩ := o2 j e he
      exact ⟨c, w1, w2, w3, w4, Rp.swap ne3 (.inr ⟨od, ha2⟩) (.inl upd_same) _ _ w5⟩
  · have q1 : SQ X.K (hide H M) ε σ H := ⟨⟨M, Same.refl _, b, f0, o, n⟩, len⟩
    exact .inr (forK_core hg hb (d := d) q1 ha h1 i0 step (fun ε' σ' H' q' hn => en.nx ε' σ' H' (q'.lower t1) hn) fin)
end
def xForK (i : Nat) (k : D → Env → Option Env) (b : XS) : XS := fun ε => match fzAt ε i with
  | some (.dicK ks _) => match xLoop k b (ks.map keyDD) ε with
    | .nx ε' => .nx ε'
    | _ => .stuck
  | _ => .stuck
theorem snd_forK {i : Nat} {k : D → Env → Option Env} {g : DS} {x : XS} (h1 : Snd g x) : Snd (gForK i k g) (xForK i k x) := fun d ε hh => by
  unfold xForK at hh
  split at hh
  · rename_i ks vs e
    refine ⟨ks, vs, fzAt_some e, ?_⟩
    have hl : (xLoop k x (ks.map keyDD) ε).to { nx := d.nx, rt := fun _ => False } := by
      cases q : xLoop k x (ks.map keyDD) ε with
      | nx ε' => rw [q] at hh; exact hh
      | _ => rw [q] at hh; exact hh.elim
    exact loop_to h1 hl
  · exact hh.elim
def Out.onlyNx (o : Out) : Out := match o with
  | .nx ε => .nx ε
  | _ => .stuck
@[simp] theorem onlyNx_nx (ε : Env) : (Out.nx ε).onlyNx = .nx ε := rfl
def ksOf (d : D) : Option (List D) := match d with
  | .dicK ks _ => some (ks.map keyDD)
  | _ => none
@[simp] theorem ksOf_k (ks : List Key) (vs : List D) : ksOf (.dicK ks vs) = some (ks.map keyDD) := rfl
@[simp] theorem xForK_at (i : Nat) (k : D → Env → Option Env) (x : XS) (ε : Env) : xForK i k x ε = Out.optL ((fzAt ε i).bind ksOf) fun xs => (xLoop k x xs ε).onlyNx := by
  unfold xForK
  cases fzAt ε i with
  | none => rfl
  | some d => cases d <;> rfl
/-! ### x = y, y the body's own: x from now on -/
def gMvO (i j : Nat) : DS := fun d ε => ∃ x, ε[j]? = some (some (.ow x)) ∧ i ≠ j ∧ i < ε.length ∧ d.nx ((ε.set i (some (.ow x))).set j none)
section
variable {K : Fg} {X : Cx} {cl : Nat → Addr} {W : WX} {H0 H : Hp} {ε : Env} {σ : L2.St} {pos : Pos}
theorem SQ.moveOwn {x : D} {i j : Nat} {v : V} (q : SQ K H0 ε σ H) (hj : ε[j]? = some (some (.ow x))) (hij : i ≠ j) (hl : i < ε.length) (hv : σ[j]? = some (some v)) : SQ K H0 ((ε.set i (some (.ow x))).set j none) (σ.set i (some v)) H := by
  obtain ⟨⟨M, t1, b, f0, o, n⟩, len⟩ := q
  refine ⟨⟨M, t1, b, fun m d e => ?_, fun m d e => ?_, fun m p d e hmp h1 h2 => ?_⟩, by rw [List.length_set, List.length_set, List.length_set, len]⟩
  · rcases set_get e with ⟨_, _, z⟩ | ⟨z1, z2⟩
    · cases z
    · rcases set_get z2 with ⟨_, _, z⟩ | ⟨y1, y2⟩
      · cases z
      · obtain ⟨u, u1, u2⟩ := f0 m d y2
        exact ⟨u, by rw [set_out y1]; exact u1, u2⟩
  · rcases set_get e with ⟨_, _, z⟩ | ⟨z1, z2⟩
    · cases z
    · rcases set_get z2 with ⟨rfl, _, z⟩ | ⟨y1, y2⟩
      · cases z
        obtain ⟨u, u1, u2⟩ := o j _ hj
        rw [hv] at u1
        cases u1
        exact ⟨u, List.getElem?_set_self (by omega), u2⟩
      · obtain ⟨u, u1, u2⟩ := o m d y2
        exact ⟨u, by rw [set_out y1]; exact u1, u2⟩
  · rcases set_get h1 with ⟨_, _, z⟩ | ⟨z1, z2⟩
    · cases z
    · rcases set_get h2 with ⟨_, _, z⟩ | ⟨w1, w2⟩
      · cases z
      · rcases set_get z2 with ⟨rfl, _, z⟩ | ⟨y1, y2⟩
        · rcases set_get w2 with ⟨rfl, _, z⟩ | ⟨x1, x2⟩
          · exact (hmp rfl).elim
          · rw [List.getElem?_set_self (by omega), set_out x1, ← hv]
            exact n j p _ _ (fun z => w1 z.symm) hj x2
        · rcases set_get w2 with ⟨rfl, _, z⟩ | ⟨x1, x2⟩
          · rw [List.getElem?_set_self (by omega), set_out y1, ← hv]
            exact n m j _ _ z1 y2 hj
          · rw [set_out y1, set_out x1]
            exact n m p _ _ hmp y2 x2
theorem s_mvO {i j : Nat} {x : Str} {e : Expr} {pos' : Pos} (he : PE X e (tVar j)) (hN : X.N.Nodup) (hi : X.N[i]? = some x) (hx : Loc X.env.scope x) (hs : swapsWith e (some (.Name x pos')) pos.line X.env = pure false := by rfl) (hf : X.fn x = true ∨ X.env.scope.names.lookup x = some .local := by first | exact .inl rfl | exact .inr rfl | assumption) :
    QS X cl W (.Assign [.Name x pos'] e pos) (tAsg (tVar j) (gName i)) (gMvO i j) := by
  refine ⟨ps_set hN hi hx he hs hf, fun H0 d D' ε σ H en q hh => ?_⟩
  obtain ⟨y, hy, hij, hl, nx⟩ := hh
  obtain ⟨v, hv⟩ : ∃ v, σ[j]? = some (some v) := by
    obtain ⟨⟨M, t1, b, f0, o, n⟩, len⟩ := id q
    obtain ⟨v, h1, _⟩ := o j y hy
    exact ⟨_, h1⟩
  exact ⟨v, hv, en.nx _ _ _ (q.moveOwn hy hij hl hv) nx⟩
end
def xMvO (i j : Nat) : XS := fun ε => Out.opt (ownAt ε j) fun x => Out.need (i ≠ j ∧ i < ε.length) (.nx ((ε.set i (some (.ow x))).set j none))
theorem snd_mvO {i j : Nat} : Snd (gMvO i j) (xMvO i j) := fun d ε hh => by
  unfold xMvO at hh
  cases e : ownAt ε j with
  | none => rw [e] at hh; exact hh.elim
  | some x =>
    rw [e] at hh
    obtain ⟨⟨h1, h2⟩, h3⟩ := Out.need_to hh
    exact ⟨x, ownAt_some e, h1, h2, h3⟩
@[simp] theorem xMvO_at (i j : Nat) (ε : Env) : xMvO i j ε = Out.opt (ownAt ε j) fun x => Out.need (i ≠ j ∧ i < ε.length) (.nx ((ε.set i (some (.ow x))).set j none)) := rfl
/-! ### {k: v} as the body's own -/
def dicOne (k x : D) : Option D := (keyD k).map fun j => .dicK [j] [x]
def gDic (i : Nat) (fk fv : Dv → Res D) : DS := fun d ε => (fk (view ε)).on (fun k => (fv (view ε)).on (fun x => imm x = true ∧ i < ε.length ∧ ∃ e, dicOne k x = some e ∧ d.nx (ε.set i (some (.ow e)))) (fun c => d.ex c ε)) (fun c => d.ex c ε)
section
variable {X : Cx} {cl : Nat → Addr} {W : WX} {ek ev : Expr} {tk tv : TE} {fk fv : Dv → Res D} {pos pos' pos2 : Pos}
theorem s_dic {i : Nat} {x : Str} (hk : QE X cl W ek tk fk) (hv : QE X cl W ev tv fv) (hN : X.N.Nodup) (hi : X.N[i]? = some x) (hx : Loc X.env.scope x) (hs : swapsWith (.Dict [some ek] [ev] pos2) (some (.Name x pos')) pos.line X.env = pure false := by rfl) (hf : X.fn x = true ∨ X.env.scope.names.lookup x = some .local := by first | exact .inl rfl | exact .inr rfl | assumption) :
    QS X cl W (.Assign [.Name x pos'] (.Dict [some ek] [ev] pos2) pos) (tAsg (tDisp [(tk, tv)]) (gName i)) (gDic i fk fv) := by
  refine ⟨ps_set hN hi hx (pe_disp (pps_cons hk.pe hv.pe pps_nil) rfl rfl (by simp) (by simp)) hs hf, fun H0 d D' ε σ H en q h => ?_⟩
  show tDisp [(tk, tv)] σ H _
  intro p hp
  have sp := same_new (o := .dK []) hp
  show tk σ (upd H p (.dK [])) _
  refine hk.sim.runS en (q.mono sp) h fun k y H1 _ s1 r1 h1 => ?_
  show tv σ H1 _
  refine hv.sim.runS en ((q.mono sp).mono s1) h1 fun z w H2 _ s2 r2 h2 => ?_
  obtain ⟨im, hl, e, he, nx⟩ := h2
  have hp2 : H2 p = some (.dK []) := s2 _ _ (s1 _ _ upd_same)
  refine ⟨hp2, ?_⟩
  unfold dicOne at he
  cases ej : keyD k with
  | none => rw [ej] at he; cases he
  | some j =>
    rw [ej] at he
    cases he
    have ey : y = kV j := rp_key ej r1
    refine ⟨[(j, w)], by rw [ey]; rfl, by simp, ?_⟩
    have sm : Same H (upd H2 p (.dK (mergeK [] [(j, w)]))) := fun c u hc => by
      have hcp : c ≠ p := fun z => by rw [z, hp] at hc; cases hc
      rw [upd_ne hcp]
      exact s2 _ _ (s1 _ _ (sp c u hc))
    have rw3 : Rp X.K (upd H2 p (.dK (mergeK [] [(j, w)]))) z w := by
      have bz : ∀ c ∈ [p], Boxy H2 c := fun c hc => by
        obtain rfl : c = p := by simpa using hc
        exact ⟨_, hp2, rfl⟩
      have z1 := Rp.hide bz z w im r2
      refine Rp.mono (fun c u hc => ?_) _ _ z1
      have hcp : c ≠ p := fun e => by unfold DL.hide at hc; rw [if_pos (by simp [e])] at hc; cases hc
      rw [upd_ne hcp]
      exact hide_same _ _ c u hc
    refine en.nx _ _ _ (q.putOwn hl rfl (fun c e => by cases e; exact ⟨_, upd_same, rfl⟩) ?_ sm ?_ ?_) nx
    · show immAll [z] = true
      exact immAll_one im
    · unfold Rp
      exact ⟨p, _, rfl, .inl upd_same, rfl, .cons rw3 .nil⟩
    · exact fresh_of hp
end
def xDic (i : Nat) (fk fv : Dv → Res D) : XS := fun ε => (fk (view ε)).thn ε fun k => (fv (view ε)).thn ε fun x => Out.need (imm x = true ∧ i < ε.length) (Out.opt (dicOne k x) fun e => .nx (ε.set i (some (.ow e))))
theorem snd_dic {i : Nat} {fk fv : Dv → Res D} : Snd (gDic i fk fv) (xDic i fk fv) := fun d ε hh => Res.on_mono (Res.thn_to hh) fun k z => Res.on_mono (Res.thn_to z) fun x z => by
  obtain ⟨⟨h1, h2⟩, h3⟩ := Out.need_to z
  cases e : dicOne k x with
  | none => rw [e] at h3; exact h3.elim
  | some y => rw [e] at h3; exact ⟨h1, h2, y, rfl, h3⟩
@[simp] theorem xDic_at (i : Nat) (fk fv : Dv → Res D) (ε : Env) : xDic i fk fv ε = (fk (view ε)).thn ε fun k => (fv (view ε)).thn ε fun x => Out.need (imm x = true ∧ i < ε.length) (Out.opt (dicOne k x) fun e => .nx (ε.set i (some (.ow e)))) := rfl
/-! ### min(d.values()) -/
def tMinV (K : Fg) (td : TE) : TE := fun σ H Q => td σ H fun x H1 => ∃ a kvs d ds, x = V.ref a ∧ Rd H1 a (.dK kvs) ∧ RpAll K H1 (d :: ds) (kvs.map (·.2)) ∧ shpAll 9 (d :: ds) = true ∧ alk (d :: ds) = true ∧ noNone (d :: ds) = true ∧ ∀ y, Rp K H1 (minF d ds) y → Q y H1
theorem kv_vals {kvs : List (Key × V)} {vs : List (Key × Value)} (r : KV kvs vs) : Vals (kvs.map (·.2)) (vs.map (·.2)) := by
  unfold KV at r
  induction r with
  | nil => exact .nil
  | cons r t ih => exact .cons r.2 ih
section
variable {X : Cx} {cl : Nat → Addr} {W : WX} {o : Expr} {p pos apos mpos : Pos} {td : TE} {f : Dv → Res D}
theorem pe_minV (hc : X.calm = true) (hu : X.A.units + 64 < cLine) (hg : Gl X "min") (hm : X.mg "min" = none) (hd : PE X o td) (hbase : attributeBase o "values" X.env (eval o X.env) = eval o X.env := by rfl) (hline : (apos.endLine == mpos.line) = true := by rfl)
    (hse : starEach [Expr.Call (.Attribute o "values" apos) [] [] mpos] X.env = [(false, eval (Expr.Call (.Attribute o "values" apos) [] [] mpos) X.env)] := by rfl) :
    PE X (.Call (.Name "min" p) [.Call (.Attribute o "values" apos) [] [] mpos] [] pos) (tMinV X.K td) := by
  refine ⟨fun pins s σ H Q I h => ?_⟩
  refine wpAny_Call_Name_kw (ld_blt I hg hm (u := .builtin "min") (by first | rfl | decide +kernel) ?_ (by first | decide +kernel | decide) (by first | decide +kernel | decide))
  rw [hse]
  refine PySem.callWith_builtin1 (wpAny_Call_method0_late hbase hline (thn (hd.run pins s σ H _ I h) fun v s1 ⟨x, H1, I1, r1, a, kvs, d, ds, ex, ha, hr, hsh, hal, hnn, q⟩ => ?_))
  subst ex
  obtain rfl : v = Value.ref a := r1
  obtain ⟨_, hsys, vs, rel, dof⟩ := dk_rd I1.hok ha
  obtain ⟨ep, dat⟩ := dof.dictAt
  have dat' := dat
  obtain ⟨ob, es, ho, hx, hdat, hko, hpr, hnd⟩ := dat'
  refine ⟨"dict", "dict.values", F.plainAttrs_dict, F.slot_dict_values, F.type_dict_values, ⟨ob, ho, hx.1⟩, fun b e => ?_, Calls.callWith_builtin rfl (PySem.evalArgs_none ?_)⟩
  · cases e
    exact ⟨ob, ho, hx.2.1⟩
  refine call_meetsIn F.slot_dict_values ⟨ob, ho, hx.1⟩ F.entry_dict_values (F.args_dict_values_1 _) (meets_dict_values (mixKind X.prog X.w) a hsys) ⟨⟨vs, dof⟩, ?_⟩
  have k1 : ∀ b u, s1.heap.get? b = some u → (s1.heap.push { cls := .type "dict_values", data := .fields #[.ref a] }).get? b = some u := fun b u e => Heap.get?_push_of_some _ e
  have dat1 : (s1.heap.push { cls := .type "dict_values", data := .fields #[.ref a] }).DictAt (mixKind X.prog X.w) a vs ep := dat.keep k1
  have rv := kv_vals rel
  obtain ⟨as, ra⟩ := reads_all I1 hsh hr rv
  have hlv : vs.length = ds.length + 1 := by
    have e1 := hr.length
    have e2 := rv.length
    rw [List.length_cons] at e1
    rw [List.length_map (as := vs)] at e2
    omega
  have hlt : a < s1.heap.objs.size := Heap.lt_size ho
  have hsz : (s1.heap.push { cls := .type "dict_values", data := .fields #[.ref a] }).objs.size = s1.heap.objs.size + 1 := Heap.size_push _ _
  have dp := depth_all hsh
  refine PySem.call_min_walkH (wpAny_pyIter_values (v := s1.heap.objs.size) (d := a) ⟨_, Heap.get?_push_size _ rfl, rfl, rfl⟩ dat1 ?_)
  refine ⟨_, _, _, _, _, _, _, s1.heap, (fun i j => dLt ((d :: ds).getD i .none) ((d :: ds).getD j .none)), rfl, (Walks.dictValues (knd := mixKind X.prog X.w) (A := X.A.in1) (I.ok.hd hc) (s1.heap.push { cls := .type "dict_values", data := .fields #[.ref a] }).objs.size a (by rw [hsz]; exact Nat.ne_of_lt (Nat.lt_succ_of_lt hlt)) vs ep).toS,
    ⟨⟨_, Heap.get?_push_size _ rfl, rfl, rfl⟩, dat1.keep fun b u e => Heap.get?_push_of_some _ e⟩, fun b hb => ?_, by omega, fun b u e hb => ?_, fun b u e => Heap.get?_push_of_some _ (k1 b u e), ?_, fun v s' hP m => ?_⟩
  · show b < ((s1.heap.push _).push _).objs.size
    rw [Heap.size_push, Heap.size_push]
    rw [hsz] at hb
    rcases List.mem_cons.mp hb with e | hb
    · rw [e]
      exact Nat.lt_succ_self _
    · have e : b = a := List.mem_singleton.mp hb
      rw [e]
      exact Nat.lt_succ_of_lt (Nat.lt_succ_of_lt hlt)
  · have e1 : b = (s1.heap.push { cls := .type "dict_values", data := .fields #[.ref a] }).objs.size := List.mem_singleton.mp hb
    have e2 := Heap.lt_size e
    rw [hsz] at e1
    rw [e1] at e2
    exact absurd e2 (Nat.not_lt.mpr (Nat.le_succ _))
  · have c := PySem.W.cmpIn_lt (prog := X.prog) (w := X.w) (A := X.A.in1) (vs := (vs.map (·.2)).toArray) (xs := (d :: ds).map toPy) (as := as) (by rw [List.toList_toArray]; exact ra) (alike_all hal hnn) (by show X.A.units + 1 + _ < _; omega)
    have eb : (fun i j => PySem.W.dataLt (((d :: ds).map toPy).getD i .none) (((d :: ds).map toPy).getD j .none)) = fun i j => dLt ((d :: ds).getD i .none) ((d :: ds).getD j .none) := by
      funext i j
      rw [getD_py, getD_py]
      rfl
    rw [eb] at c
    have conv : ∀ i v, (∃ k, vs[i]? = some (k, v)) → (vs.map (·.2)).toArray[i]? = some v := fun i v hv => by
      obtain ⟨k, hk⟩ := hv
      rw [List.getElem?_toArray, List.getElem?_map, hk]
      rfl
    exact fun i j vi vj s' Q' E' hk hi hj hq => c i j vi vj s' Q' E' hk (conv i vi hi) (conv j vj hj) hq
  · obtain ⟨h', tk, rfl, hk'⟩ := PySem.W.moved_old (s := { s1 with heap := s1.heap.push { cls := .type "dict_values", data := .fields #[.ref a] } }) rfl rfl m
    obtain ⟨k, hk⟩ := hP
    have hP2 : (vs.map (·.2)).toArray[PySem.argBest (fun i j => dLt ((d :: ds).getD i .none) ((d :: ds).getD j .none)) ((vs.map (·.2)).toArray.size - 1)]? = some v := by
      rw [List.getElem?_toArray, List.size_toArray, List.length_map, List.getElem?_map, hk]
      rfl
    obtain ⟨x, rx, rp⟩ := pick_at I1 (f := dLt) hr rv rfl hP2
    exact ⟨x, H1, I1.kept (t' := tk) (fun b u e => hk' b u (k1 b u e)), rx, q x rp⟩
def cMinV : D → Res D
  | .dicK _ (d :: ds) => Res.need (okMin (d :: ds)) (.ok (minF d ds))
  | _ => .stuck
theorem q_minV (hc : X.calm = true) (hu : X.A.units + 64 < cLine) (hm : X.mg "min" = none) (he : QE X cl W o td f) (hg : Gl X "min" := by rfl) (hbase : attributeBase o "values" X.env (eval o X.env) = eval o X.env := by rfl) (hline : (apos.endLine == mpos.line) = true := by rfl)
    (hse : starEach [Expr.Call (.Attribute o "values" apos) [] [] mpos] X.env = [(false, eval (Expr.Call (.Attribute o "values" apos) [] [] mpos) X.env)] := by rfl) :
    QF X cl W (.Call (.Name "min" p) [.Call (.Attribute o "values" apos) [] [] mpos] [] pos) (tMinV X.K td) (fun δ => (f δ).bind cMinV) := by
  refine ⟨pe_minV hc hu hg hm he.pe hbase hline hse, fun δ σ H Q en po => ?_⟩
  show td σ H _
  refine he.sim.chain (P := fun H r => PostF X.K cl W σ H r Q) en po (fun c h => h) (fun H h => h) fun d v H1 _ s1 r1 p1 => ?_
  have p2 := p1.weak s1
  unfold cMinV at p2
  split at p2
  · rename_i ks d ds _
    obtain ⟨⟨c1, c2, c3, c4⟩, p3⟩ := need_on p2
    unfold Rp at r1
    obtain ⟨a, kvs, rfl, ha, _, hx⟩ := r1
    rw [immAll_cons, Bool.and_eq_true] at c4
    exact ⟨a, kvs, d, ds, rfl, ha, hx, c1, c2, c3, fun y ry => p3 y H1 (Same.refl H1) ry (fresh_no (imm_box (fold_imm dLt ds d c4.1 c4.2)))⟩
  · exact p2.elim
end
end DL
namespace DL
open PySem L2
/-! ### a list that is frozen at its birth -/
mutual
theorem Rp.updA {K : Fg} {H : Hp} {a : Addr} {xs : List V} {o : HO} (ha : H a = some (.lst xs)) : ∀ (d : D) (v : V), imm d = true → Rp K H d v → Rp K (upd H a o) d v
  | .none, _, _, h => by unfold Rp at h ⊢; exact h
  | .bool _, _, _, h => by unfold Rp at h ⊢; exact h
  | .int _, _, _, h => by unfold Rp at h ⊢; exact h
  | .str _, _, _, h => by unfold Rp at h ⊢; exact h
  | .list l, _, i, _ => by unfold imm at i; cases i
  | .tuple l, _, i, h => by
    unfold imm at i
    unfold Rp at h ⊢
    obtain ⟨b, zs, hv, hb, hx⟩ := h
    have ne : b ≠ a := fun z => by rw [z, ha] at hb; cases hb
    exact ⟨b, zs, hv, by rw [upd_ne ne]; exact hb, RpAll.updA ha l zs i hx⟩
  | .dicK ks vs, _, i, _ => by unfold imm at i; cases i
  | .dicT ks vs, _, i, _ => by unfold imm at i; cases i
  | .scr ns, _, i, _ => by unfold imm at i; cases i
  | .adr _, _, _, h => by unfold Rp at h ⊢; exact h
  | .obj _ _ _ _, _, i, _ => by unfold imm at i; cases i
  | .fzl l, _, i, h => by
    unfold imm at i
    unfold Rp at h ⊢
    obtain ⟨b, q, zs, hv, hb, hx⟩ := h
    have ne : b ≠ a := fun z => by rw [z, ha] at hb; cases hb
    exact ⟨b, q, zs, hv, by rw [upd_ne ne]; exact hb, RpAll.updA ha l zs i hx⟩
theorem RpAll.updA {K : Fg} {H : Hp} {a : Addr} {xs : List V} {o : HO} (ha : H a = some (.lst xs)) : ∀ (ds : List D) (vs : List V), immAll ds = true → RpAll K H ds vs → RpAll K (upd H a o) ds vs
  | [], _, _, h => by unfold RpAll at h ⊢; exact h
  | d :: ds, _, i, h => by
    unfold immAll at i
    rw [Bool.and_eq_true] at i
    unfold RpAll at h ⊢
    obtain ⟨v, r, hv, h1, h2⟩ := h
    exact ⟨v, r, hv, Rp.updA ha d v i.1 h1, RpAll.updA ha ds r i.2 h2⟩
end
def tFz (t : TE) : TE := fun σ H Q => t σ H fun v H1 => ∃ a xs, v = .ref a ∧ H1 a = some (.lst xs) ∧ ∀ od, Q v (upd H1 a (.frz od (.lst xs)))
theorem pe_fz {X : Cx} {e : Expr} {t : TE} (h : PE X e t) : PE X e (tFz t) := by
  refine ⟨fun pins s σ H Q I hw => ?_⟩
  refine thn (h.run pins s σ H _ I hw) fun v s1 ⟨x, H1, I2, r, q⟩ => ?_
  obtain ⟨a, xs, rfl, ha, q⟩ := q
  obtain ⟨od, I3⟩ := I2.lock ha True.intro
  exact ⟨_, _, I3, r, q od⟩
def fzR (r : Res D) : Res D := r.bind fun d => match d with
  | .list l => Res.need (immAll l = true) (.ok (.fzl l))
  | _ => .stuck
theorem q_fzl {X : Cx} {cl : Nat → Addr} {W : WX} {e : Expr} {te : TE} {f : Dv → Res D} (h : QF X cl W e te f) : QE X cl W e (tFz te) (fun δ => fzR (f δ)) := by
  refine ⟨pe_fz h.pe, fun δ σ H Q en po => h.sim δ σ H _ en ?_⟩
  change PostE X.K cl W σ H (fzR (f δ)) Q at po
  cases r : f δ with
  | exc c => rw [r] at po; exact po
  | stuck => rw [r] at po; exact po.elim
  | ok d =>
    rw [r] at po
    unfold fzR at po
    rw [Res.ok_bind] at po
    cases d with
    | list l =>
      obtain ⟨hi, po⟩ := need_on po
      intro v H1 s1 rp fr
      obtain ⟨a, xs, rfl, ha, hx⟩ := rp_list rp
      refine ⟨a, xs, rfl, ha, fun od => po _ _ ?_ ?_⟩
      · intro b o e
        have nb : b ≠ a := fun z => by
          obtain ⟨p, hp, hn⟩ := fr rfl
          cases hp
          rw [z, hn] at e
          cases e
        rw [upd_ne nb]
        exact s1 b o e
      · unfold Rp
        exact ⟨a, od, xs, rfl, upd_same, RpAll.updA ha l xs hi hx⟩
    | _ => exact po.elim
end DL
namespace DL
open PySem L2
/-! ### upper() of plain texts -/
def mUpper : D → Res D
  | .str l => Res.need (l.all (· < 128) = true ∧ l.length ≤ big) (.ok (.str (l.map PyProof.Rows.up1)))
  | _ => .stuck
def dUpper (f : Dv → Res D) : Dv → Res D := fun δ => (f δ).bind mUpper
section
variable {X : Cx} {cl : Nat → Addr} {W : WX} {o : Expr} {to : TE} {f : Dv → Res D} {apos pos : Pos}
theorem q_upper (ho : QE X cl W o to f) (hbase : attributeBase o "upper" X.env (eval o X.env) = eval o X.env := by rfl) (hline : (apos.endLine == pos.line) = true := by rfl) :
    QF X cl W (.Call (.Attribute o "upper" apos) [] [] pos) (tM0 (fun x xs H Q => ∃ a, x = .str a ∧ xs = [] ∧ a.length ≤ 5592405 ∧ Q (.str (Txt.upper a)) H) to) (dUpper f) := by
  refine ⟨pe_upper ho.pe hbase hline, fun δ σ H Q en po => ?_⟩
  show to σ H _
  refine ho.sim.chain (P := fun H r => PostF X.K cl W σ H r Q) en po (fun c h => h) (fun H h => h) fun d v H1 _ s1 r1 p1 => ?_
  have p2 := p1.weak s1
  unfold mUpper at p2
  cases d with
  | str l =>
    obtain ⟨⟨hc, hl⟩, p2⟩ := need_on p2
    obtain rfl := rp_str r1
    refine ⟨⟨_, rfl⟩, _, rfl, rfl, ?_, ?_⟩
    · rw [S_len]
      unfold big at hl
      omega
    · have e : Txt.upper (S l) = S (l.map PyProof.Rows.up1) := SX.upper_S hc
      rw [e]
      exact p2 _ _ (Same.refl _) (by unfold Rp; rfl) (fresh_no rfl)
  | _ => exact p2.elim
end
@[simp] theorem mUpper_s (l : List Nat) : mUpper (.str l) = Res.need (l.all (· < 128) = true ∧ l.length ≤ big) (.ok (.str (l.map PyProof.Rows.up1))) := rfl
end DL
namespace DL
open PySem L2
/-! ### a list times a number; `is` of bools -/
def oMulL : D → D → Res D
  | .list l, .int k => Res.need (0 ≤ k ∧ k.natAbs ≤ 1000 ∧ l.length ≤ 1000) (.ok (.list (List.replicate k.toNat l).flatten))
  | _, _ => .stuck
theorem oMulL_ne (a b : D) : noExc (oMulL a b) := by
  unfold oMulL
  split
  · exact need_noExc ok_noExc
  · exact stuck_noExc
def rIsBl : R2 := fun x y H Q => ∃ a b, x = .bl a ∧ y = .bl b ∧ Q (.bl (decide (a = b))) H
def oIsB : D → D → Res D
  | .bool a, .bool b => .ok (.bool (decide (a = b)))
  | _, _ => .stuck
theorem oIsB_ne (a b : D) : noExc (oIsB a b) := by
  unfold oIsB
  split
  · exact ok_noExc
  · exact stuck_noExc
section
variable {K : Fg} {cl : Nat → Addr}
theorem sim_mulL : SimR K cl rRep oMulL := by
  intro x y a b σ H Q ra rb po
  unfold oMulL at po
  split at po
  · rename_i l k
    obtain rfl := rp_int rb
    obtain ⟨⟨h0, h1, h2⟩, po⟩ := need_on po
    obtain ⟨p, xs, rfl, hp, hx⟩ := rp_list ra
    refine ⟨p, k, xs, rfl, rfl, hp, by omega, by omega, ?_, fun z hz => ?_⟩
    · rw [hx.length]
      have : l.length * k.toNat ≤ 1000 * 1000 := Nat.mul_le_mul h2 (by omega)
      have q : (1000 * 1000 : Nat) ≤ sizeLine := by decide
      omega
    · have s := same_new (o := .lst (List.replicate k.toNat xs).flatten) hz
      exact po _ _ s (rpl upd_same (RpAll.rep (RpAll.mono s _ _ hx) _)) (fresh_of hz)
  · exact po.elim
theorem sim_isB : SimR K cl rIsBl oIsB := by
  intro x y a b σ H Q ra rb po
  unfold oIsB at po
  split at po
  · unfold Rp at ra rb
    exact ⟨_, _, ra, rb, po _ H (Same.refl H) (rpb _) (fresh_no rfl)⟩
  · exact po.elim
end
section
variable {X : Cx} {cl : Nat → Addr} {W : WX} {a b : Expr} {pos : Pos} {ta tb : TE} {f h : Dv → Res D}
theorem q_mulL (ha : QE X cl W a ta f) (hb : QE X cl W b tb h) : QF X cl W (.BinOp a .Mult b pos) (tOp rRep ta tb) (d2 oMulL f h) := q_op op_rep sim_mulL oMulL_ne ha hb
theorem q_isB (ha : QE X cl W a ta f) (hb : QE X cl W b tb h) (hm : behindInMarks .Is b = false := by rfl) : QF X cl W (.Compare a [.Is] [b] pos) (tOp rIsBl ta tb) (d2 oIsB f h) := q_cmp op_is_bl sim_isB oIsB_ne ha hb hm
end
@[simp] theorem oMulL_lk (l : List D) (k : Int) : oMulL (.list l) (.int k) = Res.need (0 ≤ k ∧ k.natAbs ≤ 1000 ∧ l.length ≤ 1000) (.ok (.list (List.replicate k.toNat l).flatten)) := rfl
@[simp] theorem oIsB_bb (a b : Bool) : oIsB (.bool a) (.bool b) = .ok (.bool (decide (a = b))) := rfl
end DL
namespace DL
open PySem L2
/-! ### sums of bools and numbers -/
def bI (b : Bool) : Int := if b = true then 1 else 0
def rBi (g : Int → Int → Int) : R2 := fun x y H Q => ∃ a i, x = .bl a ∧ y = .int i ∧ Q (.int (g (bI a) i)) H
def rIb (g : Int → Int → Int) : R2 := fun x y H Q => ∃ i a, x = .int i ∧ y = .bl a ∧ Q (.int (g i (bI a))) H
section
variable {X : Cx}
theorem op_addBi : OpR X (binaryOp .Add) (rBi fun i j => i + j) := by
  intro pins s σ H x y v u Q I rx ry h
  obtain ⟨a, i, rfl, rfl, q⟩ := h
  cases rx
  obtain ⟨t, rfl⟩ := ry
  exact PySem.IntBool.add_bool_int ⟨.int (bI a + i), H, I.tok _, ⟨_, rfl⟩, q⟩
theorem op_subBi : OpR X (binaryOp .Sub) (rBi fun i j => i - j) := by
  intro pins s σ H x y v u Q I rx ry h
  obtain ⟨a, i, rfl, rfl, q⟩ := h
  cases rx
  obtain ⟨t, rfl⟩ := ry
  exact PySem.IntBool.sub_bool_int ⟨.int (bI a - i), H, I.tok _, ⟨_, rfl⟩, q⟩
theorem op_mulBi : OpR X (binaryOp .Mult) (rBi fun i j => i * j) := by
  intro pins s σ H x y v u Q I rx ry h
  obtain ⟨a, i, rfl, rfl, q⟩ := h
  cases rx
  obtain ⟨t, rfl⟩ := ry
  exact PySem.IntBool.mul_bool_int ⟨.int (bI a * i), H, I.tok _, ⟨_, rfl⟩, q⟩
theorem op_subIb : OpR X (binaryOp .Sub) (rIb fun i j => i - j) := by
  intro pins s σ H x y v u Q I rx ry h
  obtain ⟨i, a, rfl, rfl, q⟩ := h
  obtain ⟨t, rfl⟩ := rx
  cases ry
  exact PySem.IntBool.sub_int_bool ⟨.int (i - bI a), H, I.tok _, ⟨_, rfl⟩, q⟩
end
def oBi (g : Int → Int → Int) : D → D → Res D
  | .bool a, .int i => .ok (.int (g (bI a) i))
  | _, _ => .stuck
def oIb (g : Int → Int → Int) : D → D → Res D
  | .int i, .bool a => .ok (.int (g i (bI a)))
  | _, _ => .stuck
theorem oBi_ne (g : Int → Int → Int) (a b : D) : noExc (oBi g a b) := by
  unfold oBi
  split
  · exact ok_noExc
  · exact stuck_noExc
theorem oIb_ne (g : Int → Int → Int) (a b : D) : noExc (oIb g a b) := by
  unfold oIb
  split
  · exact ok_noExc
  · exact stuck_noExc
section
variable {K : Fg} {cl : Nat → Addr} {g : Int → Int → Int}
theorem sim_bi : SimR K cl (rBi g) (oBi g) := by
  intro x y a b σ H Q ra rb po
  unfold oBi at po
  split at po
  · obtain rfl := rp_int rb
    unfold Rp at ra
    exact ⟨_, _, ra, rfl, po _ H (Same.refl H) (by unfold Rp; rfl) (fresh_no rfl)⟩
  · exact po.elim
theorem sim_ib : SimR K cl (rIb g) (oIb g) := by
  intro x y a b σ H Q ra rb po
  unfold oIb at po
  split at po
  · obtain rfl := rp_int ra
    unfold Rp at rb
    exact ⟨_, _, rfl, rb, po _ H (Same.refl H) (by unfold Rp; rfl) (fresh_no rfl)⟩
  · exact po.elim
end
abbrev oAddB := oBi fun i j => i + j
abbrev oSubB := oBi fun i j => i - j
abbrev oMulB := oBi fun i j => i * j
abbrev oSubI := oIb fun i j => i - j
section
variable {X : Cx} {cl : Nat → Addr} {W : WX} {a b : Expr} {pos : Pos} {ta tb : TE} {f h : Dv → Res D}
theorem q_addB (ha : QE X cl W a ta f) (hb : QE X cl W b tb h) : QF X cl W (.BinOp a .Add b pos) (tOp (rBi fun i j => i + j) ta tb) (d2 oAddB f h) := q_op op_addBi sim_bi (oBi_ne _) ha hb
theorem q_subB (ha : QE X cl W a ta f) (hb : QE X cl W b tb h) : QF X cl W (.BinOp a .Sub b pos) (tOp (rBi fun i j => i - j) ta tb) (d2 oSubB f h) := q_op op_subBi sim_bi (oBi_ne _) ha hb
theorem q_mulB (ha : QE X cl W a ta f) (hb : QE X cl W b tb h) : QF X cl W (.BinOp a .Mult b pos) (tOp (rBi fun i j => i * j) ta tb) (d2 oMulB f h) := q_op op_mulBi sim_bi (oBi_ne _) ha hb
theorem q_subI (ha : QE X cl W a ta f) (hb : QE X cl W b tb h) : QF X cl W (.BinOp a .Sub b pos) (tOp (rIb fun i j => i - j) ta tb) (d2 oSubI f h) := q_op op_subIb sim_ib (oIb_ne _) ha hb
end
@[simp] theorem oBi_at (g : Int → Int → Int) (a : Bool) (i : Int) : oBi g (.bool a) (.int i) = .ok (.int (g (bI a) i)) := rfl
@[simp] theorem oIb_at (g : Int → Int → Int) (a : Bool) (i : Int) : oIb g (.int i) (.bool a) = .ok (.int (g i (bI a))) := rfl
end DL
namespace Lw
open PySem L2 DL
/-! ### draws -/
def mixZ (c p m : Int) : Int := (c * 48271 % p) * (c * 48271 % p + 7) % p % m
def F_law_mix : List D → Res D
  | [.int c, .int p, .int m] => Res.need (0 < p ∧ p ≤ 10000 ∧ 0 < m) (.ok (.int (mixZ c p m)))
  | _ => .stuck
theorem need_sh {α : Type} {c : Prop} [Decidable c] {r : Res α} (h : Res.need c r ≠ .stuck) : c := by
  unfold Res.need at h
  split at h
  · assumption
  · exact absurd rfl h
theorem sh_law_mix {ds : List D} (h : F_law_mix ds ≠ .stuck) : ∃ c p m, ds = [.int c, .int p, .int m] ∧ 0 < p ∧ p ≤ 10000 ∧ 0 < m := by
  unfold F_law_mix at h
  split at h
  · exact ⟨_, _, _, rfl, need_sh h⟩
  · exact absurd rfl h
theorem mix_lo (c p : Int) {m : Int} (h : 0 < m) : 0 ≤ mixZ c p m := Int.emod_nonneg _ (by omega)
theorem mix_hi (c p : Int) {m : Int} (h : 0 < m) : mixZ c p m < m := Int.emod_lt_of_pos _ h
theorem mix_ok {c p m : Int} (h1 : 0 < p) (h2 : p ≤ 10000) (h3 : 0 < m) : F_law_mix [.int c, .int p, .int m] = .ok (.int (mixZ c p m)) := need_ok ⟨h1, h2, h3⟩ _
def F_law_cell : List D → Res D
  | [.scr ns, .int k] => Res.need (0 ≤ k) (.ok (.int (ns.getD k.toNat 0)))
  | _ => .stuck
theorem sh_law_cell {ds : List D} (h : F_law_cell ds ≠ .stuck) : ∃ ns k, ds = [.scr ns, .int k] ∧ 0 ≤ k := by
  unfold F_law_cell at h
  split at h
  · exact ⟨_, _, rfl, need_sh h⟩
  · exact absurd rfl h
theorem atI_nat' {α : Type} {l : List α} {k : Int} (h0 : 0 ≤ k) (h1 : k < l.length) : atI l k = l[k.toNat]? := by
  unfold atI ixN
  rw [if_pos h0, if_pos h1]
  rfl
theorem atI_get {α : Type} {l : List α} {k : Int} (h0 : 0 ≤ k) (h1 : k < l.length) (d : α) : atI l k = some (l.getD k.toNat d) := by
  rw [atI_nat' h0 h1]
  have : k.toNat < l.length := by omega
  simp [List.getD, this]
/-! ### wheels -/
def pool0 : List Nat := [104, 99, 102, 98, 100, 97, 101, 103]
/-- what is left of the pool, and what is gathered, behind n letters -/
def drawn (c : Int) : Nat → List Nat × List Nat
  | 0 => (pool0, [])
  | n + 1 => let s := drawn c n
    let x := s.1.getD (mixZ (c + 19 * (n : Int)) 9967 s.1.length).toNat 0
    (s.1.erase x, s.2 ++ [x])
def wheelN (c most : Int) : Nat := (1 + mixZ c 9973 most).toNat
def wheelL (c most : Int) : List Nat := (drawn c (wheelN c most)).2
structure Wh (w : List Nat) : Prop where
  nd : w.Nodup
  pos : 0 < w.length
  le : w.length ≤ 8
  lt : ∀ c ∈ w, 97 ≤ c ∧ c ≤ 104
theorem drawn_ok (c : Int) : ∀ n, n ≤ 8 → (drawn c n).1.length = 8 - n ∧ (drawn c n).2.length = n ∧ ((drawn c n).1 ++ (drawn c n).2).Nodup ∧ ∀ x ∈ (drawn c n).1 ++ (drawn c n).2, x ∈ pool0
  | 0, _ => ⟨rfl, rfl, (by decide : (pool0 ++ []).Nodup), fun x h => by simpa [drawn] using h⟩
  | n + 1, h => by
    obtain ⟨h1, h2, h3, h4⟩ := drawn_ok c n (by omega)
    have hp : 0 < ((drawn c n).1.length : Int) := by omega
    have l0 := mix_lo (c + 19 * (n : Int)) 9967 hp
    have l1 := mix_hi (c + 19 * (n : Int)) 9967 hp
    have hm : (drawn c n).1.getD (mixZ (c + 19 * (n : Int)) 9967 (drawn c n).1.length).toNat 0 ∈ (drawn c n).1 := by
      have hl : (mixZ (c + 19 * (n : Int)) 9967 (drawn c n).1.length).toNat < (drawn c n).1.length := by omega
      rw [List.getD_eq_getElem?_getD, List.getElem?_eq_getElem hl]
      exact List.getElem_mem hl
    have key : drawn c (n + 1) = ((drawn c n).1.erase ((drawn c n).1.getD (mixZ (c + 19 * (n : Int)) 9967 (drawn c n).1.length).toNat 0), (drawn c n).2 ++ [(drawn c n).1.getD (mixZ (c + 19 * (n : Int)) 9967 (drawn c n).1.length).toNat 0]) := rfl
    rw [key]
    generalize (drawn c n).1.getD (mixZ (c + 19 * (n : Int)) 9967 (drawn c n).1.length).toNat 0 = x at hm
    have pm : ((drawn c n).1.erase x ++ ((drawn c n).2 ++ [x])).Perm ((drawn c n).1 ++ (drawn c n).2) := by
      have p1 : (x :: (drawn c n).1.erase x).Perm (drawn c n).1 := (List.perm_cons_erase hm).symm
      have p2 : ((drawn c n).1.erase x ++ ((drawn c n).2 ++ [x])).Perm (x :: ((drawn c n).1.erase x ++ (drawn c n).2)) := by
        rw [← List.append_assoc]
        exact List.perm_append_singleton x _
      exact p2.trans (p1.append_right _)
    refine ⟨by rw [List.length_erase_of_mem hm]; omega, by rw [List.length_append]; simp; omega, pm.nodup_iff.mpr h3, fun y hy => h4 y (pm.mem_iff.mp hy)⟩
theorem wheelN_le {c most : Int} (h : 0 < most ∧ most ≤ 8) : 1 ≤ wheelN c most ∧ (wheelN c most : Int) ≤ most ∧ wheelN c most ≤ 8 := by
  have l0 := mix_lo c 9973 h.1
  have l1 := mix_hi c 9973 h.1
  unfold wheelN
  omega
theorem wheel_len {c most : Int} (h : 0 < most ∧ most ≤ 8) : ((wheelL c most).length : Int) ≤ most := by
  have := wheelN_le (c := c) h
  unfold wheelL
  rw [(drawn_ok c _ this.2.2).2.1]
  exact this.2.1
theorem wheel_ok {c most : Int} (h : 0 < most ∧ most ≤ 8) : Wh (wheelL c most) := by
  have hn := wheelN_le (c := c) h
  obtain ⟨h1, h2, h3, h4⟩ := drawn_ok c (wheelN c most) hn.2.2
  refine ⟨(List.nodup_append.mp h3).2.1, by unfold wheelL; omega, by unfold wheelL; omega, fun x hx => ?_⟩
  have := h4 x (List.mem_append_right _ hx)
  unfold pool0 at this
  simp at this
  omega
theorem erase_one (x : Nat) : ∀ l : List Nat, (l.map fun c => [c]).erase [x] = (l.erase x).map fun c => [c]
  | [] => rfl
  | y :: l => by
    by_cases h : y = x
    · subst h
      simp
    · have h' : ([y] == [x]) = false := by simpa using h
      have h2 : (y == x) = false := by simpa using h
      rw [List.map_cons, List.erase_cons, h', List.erase_cons, h2]
      simp [erase_one x l]
def F_law_wheel : List D → Res D
  | [.int c, .int m] => Res.need (0 < m ∧ m ≤ 8) (.ok (.str (wheelL c m)))
  | _ => .stuck
theorem sh_law_wheel {ds : List D} (h : F_law_wheel ds ≠ .stuck) : ∃ c m, ds = [.int c, .int m] ∧ 0 < m ∧ m ≤ 8 := by
  unfold F_law_wheel at h
  split at h
  · exact ⟨_, _, rfl, need_sh h⟩
  · exact absurd rfl h
/-! ### places and ways -/
def F_place : List D → Res D
  | [.str w, .str [c]] => if c ∈ w then .ok (.int (w.idxOf c)) else .exc 0
  | _ => .stuck
theorem sh_place {ds : List D} (h : F_place ds ≠ .stuck) : ∃ w c, ds = [.str w, .str [c]] := by
  unfold F_place at h
  split at h
  · exact ⟨_, _, rfl⟩
  · exact absurd rfl h
def fwd (w : List Nat) (a c : Nat) : Int := ((w.idxOf c : Int) - (w.idxOf a : Int)) % (w.length : Int)
def wayZ (b : Bool) (w : List Nat) (a c : Nat) : Int := if b = true then (if (w.length : Int) - fwd w a c < fwd w a c then (w.length : Int) - fwd w a c else fwd w a c) else fwd w a c
def farZ (b f : Bool) (w : List Nat) (a c : Nat) : Int := if a = c ∧ f = true then (w.length : Int) else wayZ b w a c
def F_way : List D → Res D
  | [.tuple [.bool b, .bool _], .str w, .str [a], .str [c]] => Res.need (w.length ≤ big) (if c ∈ w ∧ a ∈ w then .ok (.int (wayZ b w a c)) else .exc 0)
  | _ => .stuck
theorem sh_way {ds : List D} (h : F_way ds ≠ .stuck) : ∃ b f w a c, ds = [.tuple [.bool b, .bool f], .str w, .str [a], .str [c]] ∧ w.length ≤ big := by
  unfold F_way at h
  split at h
  · exact ⟨_, _, _, _, _, rfl, need_sh h⟩
  · exact absurd rfl h
def F_far : List D → Res D
  | [.tuple [.bool b, .bool f], .str w, .str [a], .str [c]] => Res.need (w.length ≤ big) (if c ∈ w ∧ a ∈ w then .ok (.int (farZ b f w a c)) else .exc 0)
  | _ => .stuck
theorem sh_far {ds : List D} (h : F_far ds ≠ .stuck) : ∃ b f w a c, ds = [.tuple [.bool b, .bool f], .str w, .str [a], .str [c]] ∧ w.length ≤ big := by
  unfold F_far at h
  split at h
  · exact ⟨_, _, _, _, _, rfl, need_sh h⟩
  · exact absurd rfl h
def turnL (w : List Nat) (c : Nat) : List Nat := w.drop (w.idxOf c) ++ w.take (w.idxOf c)
def F_turned : List D → Res D
  | [.str w, .str [c]] => Res.need (w.length ≤ 1000) (if c ∈ w then .ok (.str (turnL w c)) else .exc 0)
  | _ => .stuck
theorem sh_turned {ds : List D} (h : F_turned ds ≠ .stuck) : ∃ w c, ds = [.str w, .str [c]] ∧ w.length ≤ 1000 := by
  unfold F_turned at h
  split at h
  · exact ⟨_, _, rfl, need_sh h⟩
  · exact absurd rfl h
def mirL (w : List Nat) : List Nat := w.take 1 ++ (w.drop 1).reverse
def F_mirrored : List D → Res D
  | [.str w] => Res.need (w.length ≤ 1000) (.ok (.str (mirL w)))
  | _ => .stuck
theorem sh_mirrored {ds : List D} (h : F_mirrored ds ≠ .stuck) : ∃ w, ds = [.str w] ∧ w.length ≤ 1000 := by
  unfold F_mirrored at h
  split at h
  · exact ⟨_, rfl, need_sh h⟩
  · exact absurd rfl h
/-! slices -/
theorem cut_from {α : Type} (l : List α) (k : Nat) (h : k ≤ l.length) : cutL l (some (k : Int)) none = l.drop k := by
  unfold cutL
  rw [HT.sIx_nat, HT.sIx_none, Nat.min_eq_left h, ← List.length_drop, List.take_length]
theorem cut_to {α : Type} (l : List α) (k : Nat) : cutL l none (some (k : Int)) = l.take k := by
  unfold cutL
  rw [HT.sIx_nat, HT.sIx_none, List.drop_zero, Nat.sub_zero]
  rcases Nat.le_total k l.length with h | h
  · rw [Nat.min_eq_left h]
  · rw [Nat.min_eq_right h, List.take_length, List.take_of_length_le h]
theorem idx_lt {w : List Nat} {c : Nat} (h : c ∈ w) : w.idxOf c < w.length := List.idxOf_lt_length_iff.mpr h
theorem idx_get {w : List Nat} {c : Nat} (h : c ∈ w) : w[w.idxOf c]? = some c := by
  rw [List.getElem?_eq_getElem (idx_lt h)]
  simp
theorem idx_inj {w : List Nat} {a c : Nat} (ha : a ∈ w) (hc : c ∈ w) (e : w.idxOf a = w.idxOf c) : a = c := by
  have h1 := idx_get ha
  rw [e, idx_get hc] at h1
  exact (Option.some.inj h1).symm
theorem fwd_eq {w : List Nat} {a c : Nat} (ha : a ∈ w) (hc : c ∈ w) : fwd w a c = if w.idxOf a ≤ w.idxOf c then (w.idxOf c : Int) - w.idxOf a else (w.idxOf c : Int) - w.idxOf a + w.length := by
  have h1 := idx_lt ha
  have h2 := idx_lt hc
  unfold fwd
  split
  · exact Int.emod_eq_of_lt (by omega) (by omega)
  · rw [← Int.add_emod_right]
    exact Int.emod_eq_of_lt (by omega) (by omega)
theorem far_ok {b f : Bool} {w : List Nat} {a c : Nat} (hw : w.length ≤ big) (ha : a ∈ w) (hc : c ∈ w) : F_far [.tuple [.bool b, .bool f], .str w, .str [a], .str [c]] = .ok (.int (farZ b f w a c)) := by
  show Res.need _ (if c ∈ w ∧ a ∈ w then _ else _) = _
  rw [need_ok hw, if_pos ⟨hc, ha⟩]
/-! ### law 3: the ways of a wheel -/
def F_law_are_ways : List D → Res D
  | [.str w, .bool _] => Res.need (w.Nodup ∧ 0 < w.length ∧ w.length ≤ 8) (.ok (.bool true))
  | _ => .stuck
theorem sh_law_are_ways {ds : List D} (h : F_law_are_ways ds ≠ .stuck) : ∃ w f, ds = [.str w, .bool f] ∧ w.Nodup ∧ 0 < w.length ∧ w.length ≤ 8 := by
  unfold F_law_are_ways at h
  split at h
  · exact ⟨_, _, rfl, need_sh h⟩
  · exact absurd rfl h
theorem ways_math {f : Bool} {w : List Nat} {a c : Nat} (ha : a ∈ w) (hc : c ∈ w) :
    (a ≠ c → farZ false f w a c + farZ false f w c a = w.length ∧ farZ true f w a c = (if farZ false f w c a < farZ false f w a c then farZ false f w c a else farZ false f w a c) ∧ 0 < farZ true f w a c ∧ farZ true f w a c ≤ (w.length : Int) / 2) ∧
    (a = c → farZ false f w a c = farZ false f w c a ∧ farZ true f w a c = farZ false f w a c ∧ farZ false f w a c = (w.length : Int) * (if f = true then 1 else 0)) := by
  have h1 := idx_lt ha
  have h2 := idx_lt hc
  constructor
  · intro hn
    have hne : w.idxOf a ≠ w.idxOf c := fun z => hn (idx_inj ha hc z)
    have hn' : c ≠ a := fun z => hn z.symm
    simp only [farZ, wayZ, hn, hn', false_and, if_false, fwd_eq ha hc, fwd_eq hc ha]
    simp only [if_true, Bool.false_eq_true, if_false]
    by_cases h : w.idxOf a ≤ w.idxOf c
    · have h' : ¬ w.idxOf c ≤ w.idxOf a := by omega
      simp only [h, h', if_true, if_false]
      refine ⟨by omega, ?_, ?_, ?_⟩ <;> (split <;> (try split) <;> omega)
    · have h' : w.idxOf c ≤ w.idxOf a := by omega
      simp only [h, h', if_true, if_false]
      refine ⟨by omega, ?_, ?_, ?_⟩ <;> (split <;> (try split) <;> omega)
  · intro he
    subst he
    have e0 : fwd w a a = 0 := by rw [fwd_eq ha ha]; simp
    cases f
    · simp [farZ, wayZ, e0]
      omega
    · simp [farZ]
theorem tri_math {b f : Bool} {w : List Nat} {a c t : Nat} (ha : a ∈ w) (hc : c ∈ w) (ht : t ∈ w) (hn : a ≠ c) : ¬ (farZ b f w a t + farZ b f w t c < farZ b f w a c) := by
  have h1 := idx_lt ha
  have h2 := idx_lt hc
  have h3 := idx_lt ht
  have n1 : w.idxOf a ≠ w.idxOf c := fun z => hn (idx_inj ha hc z)
  have e1 := fwd_eq ha hc
  have e2 := fwd_eq ha ht
  have e3 := fwd_eq ht hc
  have q1 : w.idxOf a = w.idxOf t → a = t := idx_inj ha ht
  have q2 : w.idxOf t = w.idxOf c → t = c := idx_inj ht hc
  have p1 : a = t → w.idxOf a = w.idxOf t := fun z => by rw [z]
  have p2 : t = c → w.idxOf t = w.idxOf c := fun z => by rw [z]
  simp only [farZ, wayZ, hn, false_and, if_false]
  generalize fwd w a c = x at *
  generalize fwd w a t = y at *
  generalize fwd w t c = z at *
  split at e1 <;> split at e2 <;> split at e3 <;> cases b <;> cases f <;> simp only [Bool.false_eq_true, if_false, if_true, and_true, and_false] <;> (repeat' split) <;> omega
/-! ### are_alike -/
def alikeB (b f : Bool) (u v : List Nat) : Bool := decide (u.Perm v) && u.all fun x => u.all fun y => decide (farZ b f u x y = farZ b f v x y)
def F_are_alike : List D → Res D
  | [.tuple [.bool b, .bool f], .str u, .str v] => Res.need (u.length ≤ 1000 ∧ v.length ≤ 1000 ∧ (u.all (· < 0x110000) = true) ∧ (v.all (· < 0x110000) = true)) (.ok (.bool (alikeB b f u v)))
  | _ => .stuck
theorem sh_are_alike {ds : List D} (h : F_are_alike ds ≠ .stuck) : ∃ b f u v, ds = [.tuple [.bool b, .bool f], .str u, .str v] ∧ u.length ≤ 1000 ∧ v.length ≤ 1000 ∧ (u.all (· < 0x110000) = true) ∧ (v.all (· < 0x110000) = true) := by
  unfold F_are_alike at h
  split at h
  · exact ⟨_, _, _, _, rfl, need_sh h⟩
  · exact absurd rfl h
end Lw
namespace Lw
open PySem L2 DL
/-! ### turning and mirroring -/
theorem idx_of_get : ∀ {l : List Nat} {k x : Nat}, l.Nodup → l[k]? = some x → l.idxOf x = k
  | [], _, _, _, h => by simp at h
  | y :: l, 0, x, _, h => by
    simp at h
    subst h
    simp
  | y :: l, k + 1, x, hn, h => by
    have h' : l[k]? = some x := by simpa using h
    have hm : x ∈ l := List.mem_of_getElem? h'
    have hy : y ≠ x := fun e => (List.nodup_cons.mp hn).1 (e ▸ hm)
    have hb : (y == x) = false := by simpa using hy
    rw [List.idxOf_cons, hb, idx_of_get (List.nodup_cons.mp hn).2 h']
    rfl
theorem turn_perm (w : List Nat) (c : Nat) : (turnL w c).Perm w := by
  unfold turnL
  have := List.perm_append_comm (l₁ := w.drop (w.idxOf c)) (l₂ := w.take (w.idxOf c))
  rwa [List.take_append_drop] at this
theorem turn_len (w : List Nat) (c : Nat) : (turnL w c).length = w.length := (turn_perm w c).length_eq
theorem turn_idx {w : List Nat} (hn : w.Nodup) {a x : Nat} (ha : a ∈ w) (hx : x ∈ w) : (turnL w a).idxOf x = if w.idxOf a ≤ w.idxOf x then w.idxOf x - w.idxOf a else w.idxOf x + (w.length - w.idxOf a) := by
  have h1 := idx_lt ha
  have h2 := idx_lt hx
  refine idx_of_get ((turn_perm w a).nodup_iff.mpr hn) ?_
  unfold turnL
  split
  · rw [List.getElem?_append_left (by rw [List.length_drop]; omega), List.getElem?_drop]
    have : w.idxOf a + (w.idxOf x - w.idxOf a) = w.idxOf x := by omega
    rw [this]
    exact idx_get hx
  · rw [List.getElem?_append_right (by rw [List.length_drop]; omega), List.length_drop]
    have : w.idxOf x + (w.length - w.idxOf a) - (w.length - w.idxOf a) = w.idxOf x := by omega
    rw [this, List.getElem?_take_of_lt (by omega)]
    exact idx_get hx
theorem turn_turn {w : List Nat} (hn : w.Nodup) {a x : Nat} (ha : a ∈ w) (hx : x ∈ w) : turnL (turnL w a) x = turnL w x := by
  have h1 := idx_lt ha
  have h2 := idx_lt hx
  have e := turn_idx hn ha hx
  have e0 : turnL (turnL w a) x = (turnL w a).drop ((turnL w a).idxOf x) ++ (turnL w a).take ((turnL w a).idxOf x) := rfl
  rw [e0, e]
  have el : (w.drop (w.idxOf a)).length = w.length - w.idxOf a := List.length_drop
  have er : turnL w a = w.drop (w.idxOf a) ++ w.take (w.idxOf a) := rfl
  rw [er]
  unfold turnL
  generalize w.idxOf a = i at *
  generalize w.idxOf x = k at *
  split
  · rename_i h
    rw [List.drop_append_of_le_length (by omega), List.drop_drop, List.take_append_of_le_length (by omega)]
    have q : i + (k - i) = k := by omega
    rw [q, List.append_assoc]
    congr 1
    conv => rhs; rw [← q, List.take_add]
  · rename_i h
    have q : k + (w.length - i) = (w.drop i).length + k := by omega
    rw [q, List.drop_length_add_append, List.take_length_add_append, List.take_take, Nat.min_eq_left (by omega), ← List.append_assoc]
    congr 1
    have : w.drop k = (w.take i).drop k ++ (w.drop i) := by
      conv => lhs; rw [← List.take_append_drop i w]
      rw [List.drop_append_of_le_length (by rw [List.length_take]; omega)]
    rw [this]
theorem turn_fwd {w : List Nat} (hn : w.Nodup) {a x y : Nat} (ha : a ∈ w) (hx : x ∈ w) (hy : y ∈ w) : fwd (turnL w a) x y = fwd w x y := by
  have m : ∀ z, z ∈ w → z ∈ turnL w a := fun z hz => (turn_perm w a).mem_iff.mpr hz
  have h1 := idx_lt ha
  have h2 := idx_lt hx
  have h3 := idx_lt hy
  have e1 := turn_idx hn ha hx
  have e2 := turn_idx hn ha hy
  rw [fwd_eq (m _ hx) (m _ hy), fwd_eq hx hy, e1, e2, turn_len]
  generalize w.idxOf a = i at *
  generalize w.idxOf x = j at *
  generalize w.idxOf y = k at *
  repeat' split
  all_goals omega
theorem turn_far {w : List Nat} (hn : w.Nodup) {b f : Bool} {a x y : Nat} (ha : a ∈ w) (hx : x ∈ w) (hy : y ∈ w) : farZ b f (turnL w a) x y = farZ b f w x y := by
  unfold farZ wayZ
  rw [turn_fwd hn ha hx hy, turn_len]
theorem turn_alike {w : List Nat} (hn : w.Nodup) {b f : Bool} {a : Nat} (ha : a ∈ w) : alikeB b f w (turnL w a) = true := by
  unfold alikeB
  rw [decide_eq_true (turn_perm w a).symm, Bool.true_and]
  refine List.all_eq_true.mpr fun x hx => List.all_eq_true.mpr fun y hy => decide_eq_true ?_
  exact (turn_far hn ha hx hy).symm
theorem turn_place {w : List Nat} (hn : w.Nodup) {a : Nat} (ha : a ∈ w) : (turnL w a).idxOf a = 0 := by
  rw [turn_idx hn ha ha]
  simp
theorem turn_first (w : List Nat) (c : Nat) : turnL (c :: w) c = c :: w := by
  unfold turnL
  simp
/-! mirrored -/
theorem mir_cons (c : Nat) (w : List Nat) : mirL (c :: w) = c :: w.reverse := by simp [mirL]
theorem mir_mir (w : List Nat) : mirL (mirL w) = w := by
  cases w with
  | nil => rfl
  | cons c w => rw [mir_cons, mir_cons, List.reverse_reverse]
theorem mir_perm (w : List Nat) : (mirL w).Perm w := by
  cases w with
  | nil => exact List.Perm.refl _
  | cons c w => rw [mir_cons]; exact (List.reverse_perm w).cons c
theorem mir_len (w : List Nat) : (mirL w).length = w.length := (mir_perm w).length_eq
theorem mir_idx {w : List Nat} (hn : w.Nodup) {x : Nat} (hx : x ∈ w) : (mirL w).idxOf x = if w.idxOf x = 0 then 0 else w.length - w.idxOf x := by
  have h2 := idx_lt hx
  have hg := idx_get hx
  refine idx_of_get ((mir_perm w).nodup_iff.mpr hn) ?_
  cases w with
  | nil => cases hx
  | cons c w =>
    rw [mir_cons]
    generalize (c :: w).idxOf x = k at *
    match k with
    | 0 => simpa using hg
    | k + 1 =>
      have hg' : w[k]? = some x := by simpa using hg
      have hl : k < w.length := by simpa using h2
      have e : (c :: w).length - (k + 1) = (w.length - 1 - k) + 1 := by simp; omega
      rw [if_neg (by omega), e, List.getElem?_cons_succ, List.getElem?_reverse (by omega)]
      have q : w.length - 1 - (w.length - 1 - k) = k := by omega
      rw [q]
      exact hg'
theorem mir_fwd {w : List Nat} (hn : w.Nodup) {x y : Nat} (hx : x ∈ w) (hy : y ∈ w) : fwd (mirL w) x y = fwd w y x := by
  have m : ∀ z, z ∈ w → z ∈ mirL w := fun z hz => (mir_perm w).mem_iff.mpr hz
  have h2 := idx_lt hx
  have h3 := idx_lt hy
  rw [fwd_eq (m _ hx) (m _ hy), fwd_eq hy hx, mir_idx hn hx, mir_idx hn hy, mir_len]
  generalize w.idxOf x = j at *
  generalize w.idxOf y = k at *
  repeat' split
  all_goals omega
theorem mir_far {w : List Nat} (hn : w.Nodup) {b f : Bool} {x y : Nat} (hx : x ∈ w) (hy : y ∈ w) : farZ b f (mirL w) x y = farZ b f w y x := by
  unfold farZ wayZ
  rw [mir_fwd hn hx hy, mir_len]
  simp only [eq_comm (a := x) (b := y)]
theorem mir_alike {w : List Nat} (hn : w.Nodup) (b f : Bool) : alikeB b f w (mirL w) = (b || decide (w.length < 3)) := by
  unfold alikeB
  rw [decide_eq_true (mir_perm w).symm, Bool.true_and]
  cases hq : (b || decide (w.length < 3)) with
  | true =>
    refine List.all_eq_true.mpr fun x hx => List.all_eq_true.mpr fun y hy => decide_eq_true ?_
    rw [mir_far hn hx hy]
    by_cases e : x = y
    · rw [e]
    · have h1 := idx_lt hx
      have h2 := idx_lt hy
      have ne : w.idxOf x ≠ w.idxOf y := fun z => e (idx_inj hx hy z)
      have e' : ¬ y = x := fun z => e z.symm
      simp only [farZ, wayZ, e, e', false_and, if_false, fwd_eq hx hy, fwd_eq hy hx]
      generalize w.idxOf x = j at *
      generalize w.idxOf y = k at *
      cases b with
      | true =>
        simp only [if_true]
        repeat' split
        all_goals omega
      | false =>
        have : w.length < 3 := by simpa using hq
        simp only [Bool.false_eq_true, if_false]
        repeat' split
        all_goals omega
  | false =>
    have hb : b = false := by cases b <;> simp_all
    subst hb
    have h3 : ¬ w.length < 3 := by simpa using hq
    match w, hn, h3 with
    | p :: q :: r, hn, h3 =>
      rw [← Bool.not_eq_true]
      intro z
      have z1 := of_decide_eq_true (List.all_eq_true.mp (List.all_eq_true.mp z p (by simp)) q (by simp))
      have hp : p ∈ p :: q :: r := by simp
      have hq' : q ∈ p :: q :: r := by simp
      have hpq : p ≠ q := fun e => (List.nodup_cons.mp hn).1 (by simp [e])
      have hqp : ¬ q = p := fun e => hpq e.symm
      have i1 : (p :: q :: r).idxOf p = 0 := by simp
      have i2 : (p :: q :: r).idxOf q = 1 := idx_of_get hn (by simp)
      rw [mir_far hn hp hq'] at z1
      simp only [farZ, wayZ, hpq, hqp, false_and, if_false, Bool.false_eq_true, fwd_eq hp hq', fwd_eq hq' hp, i1, i2] at z1
      simp at z1 h3
      omega
    | [_], _, h3 => simp at h3
    | [], _, h3 => simp at h3
theorem wheel_at {w : List Nat} {k : Int} (h0 : 0 ≤ k) (h1 : k < w.length) : ∃ c, c ∈ w ∧ atI w k = some c := by
  have hl : k.toNat < w.length := by omega
  refine ⟨w[k.toNat], List.getElem_mem hl, ?_⟩
  rw [atI_nat' h0 h1, List.getElem?_eq_getElem hl]
theorem eqB_signs {l m : List Nat} (h1 : ∀ c ∈ l, c < 0x110000) (h2 : ∀ c ∈ m, c < 0x110000) : oEqB (.list (signs l)) (.list (signs m)) = .ok (decide (l = m)) := by
  have e : oEqB (.list (signs l)) (.list (signs m)) = Res.need (shp 10 (.list (signs l)) = true ∧ shp 10 (.list (signs m)) = true) (.ok (deq (.list (signs l)) (.list (signs m)))) := rfl
  rw [e, need_ok ⟨by unfold shp; exact shp_signs h1, by unfold shp; exact shp_signs h2⟩, deq_signs]
theorem turn_ok {w : List Nat} {c : Nat} (hw : w.length ≤ 1000) (hc : c ∈ w) : F_turned [.str w, .str [c]] = .ok (.str (turnL w c)) := by
  show Res.need _ (if c ∈ w then _ else _) = _
  rw [need_ok hw, if_pos hc]
theorem mir_ok {w : List Nat} (hw : w.length ≤ 1000) : F_mirrored [.str w] = .ok (.str (mirL w)) := need_ok hw _
theorem alike_ok {b f : Bool} {u v : List Nat} (h1 : u.length ≤ 1000) (h2 : v.length ≤ 1000) (h3 : ∀ c ∈ u, c < 0x110000) (h4 : ∀ c ∈ v, c < 0x110000) : F_are_alike [.tuple [.bool b, .bool f], .str u, .str v] = .ok (.bool (alikeB b f u v)) :=
  need_ok ⟨h1, h2, List.all_eq_true.mpr fun c hc => decide_eq_true (h3 c hc), List.all_eq_true.mpr fun c hc => decide_eq_true (h4 c hc)⟩ _
theorem place_ok {w : List Nat} {c : Nat} (hc : c ∈ w) : F_place [.str w, .str [c]] = .ok (.int (w.idxOf c : Nat)) := by
  show (if c ∈ w then _ else _) = _
  rw [if_pos hc]
theorem first_of {w : List Nat} (h : 0 < w.length) : ∃ z, z ∈ w ∧ atI w 0 = some z ∧ turnL w z = w ∧ atI (mirL w) 0 = some z := by
  match w, h with
  | z :: r, _ => exact ⟨z, by simp, by rw [atI_nat' (by decide) (by simp)]; rfl, turn_first r z, by rw [mir_cons, atI_nat' (by decide) (by simp)]; rfl⟩
def F_law : List D → Res D
  | [.scr _] => .ok (.bool true)
  | _ => .stuck
theorem sh_law {ds : List D} (h : F_law ds ≠ .stuck) : ∃ ns, ds = [.scr ns] := by
  unfold F_law at h
  split at h
  · exact ⟨_, rfl⟩
  · exact absurd rfl h
theorem ne_law : ∀ ds c, F_law ds ≠ .exc c := by
  intro ds c h
  unfold F_law at h
  split at h <;> cases h
end Lw
namespace Lw
open PySem L2 DL
theorem call1 {f : Dv → Res D} {δ : Dv} {d : D} {r : Res D} {gc : List D → Res D} (h : f δ = .ok d) (hc : gc [d] = r) : ((dCons f dNil) δ).bind gc = r := by
  have e : (dCons f dNil) δ = .ok [d] := by simp [dCons, dNil, h]
  rw [e]
  exact hc
/-- while: what holds at each turn, with what gets less -/
theorem sq_while {fb : Dv → Res Bool} {g q : DS} {d : DE} {ε : DL.Env} (I : Nat → DL.Env → Prop) (m0 : Nat) (h0 : I m0 ε)
    (hs : ∀ m ε2, I m ε2 → (fb (view ε2) = .ok true ∧ g { nx := fun ε3 => ∃ k, k < m ∧ I k ε3, rt := d.rt, ex := d.ex, bk := q d, ct := fun ε3 => ∃ k, k < m ∧ I k ε3 } ε2) ∨ (fb (view ε2) = .ok false ∧ q d ε2)) : gSeq (gWhile fb g) q d ε := by
  refine ⟨I, ⟨m0, h0⟩, fun m ε2 hi => ?_⟩
  rcases hs m ε2 hi with ⟨e, h⟩ | ⟨e, h⟩
  · rw [e]
    exact ⟨_, fun ε3 z => z, h⟩
  · rw [e]
    exact h
/-! ### drawn texts -/
def textL (c : Int) (w : List Nat) : Nat → List Nat
  | 0 => []
  | n + 1 => let h := textL c w n
    h ++ [if 0 < n ∧ mixZ (c + 5 * (n : Int)) 9931 4 = 0 then h.getD (n - 1) 0 else w.getD (mixZ (c + 23 * (n : Int)) 9941 w.length).toNat 0]
def textN (c most : Int) : Nat := (mixZ c 9949 (most + 1)).toNat
def textD (c : Int) (w : List Nat) (most : Int) : List Nat := textL c w (textN c most)
theorem textL_len (c : Int) (w : List Nat) : ∀ n, (textL c w n).length = n
  | 0 => rfl
  | n + 1 => by
    show (textL c w n ++ _).length = _
    rw [List.length_append, textL_len c w n]
    rfl
theorem getD_mem' {l : List Nat} {i : Nat} (h : i < l.length) (d : Nat) : l.getD i d ∈ l := by
  rw [List.getD_eq_getElem?_getD, List.getElem?_eq_getElem h]
  exact List.getElem_mem h
theorem textL_in {c : Int} {w : List Nat} (hw : 0 < w.length) : ∀ n, ∀ x ∈ textL c w n, x ∈ w
  | 0, x, h => by cases h
  | n + 1, x, h => by
    have hp : (0 : Int) < (w.length : Int) := by omega
    have l0 := mix_lo (c + 23 * (n : Int)) 9941 hp
    have l1 := mix_hi (c + 23 * (n : Int)) 9941 hp
    rcases List.mem_append.mp h with h | h
    · exact textL_in hw n x h
    · rw [List.mem_singleton.mp h]
      split
      · rename_i q
        exact textL_in hw n _ (getD_mem' (by rw [textL_len]; omega) 0)
      · exact getD_mem' (by omega) 0
theorem textN_le {c m : Int} (h : 0 ≤ m) : (textN c m : Int) ≤ m := by
  have l0 := mix_lo c 9949 (m := m + 1) (by omega)
  have l1 := mix_hi c 9949 (m := m + 1) (by omega)
  unfold textN
  omega
def F_law_text : List D → Res D
  | [.int c, .str w, .int m] => Res.need (0 < w.length ∧ w.length ≤ 8 ∧ 0 ≤ m ∧ m ≤ 30) (.ok (.str (textD c w m)))
  | _ => .stuck
theorem sh_law_text {ds : List D} (h : F_law_text ds ≠ .stuck) : ∃ c w m, ds = [.int c, .str w, .int m] ∧ 0 < w.length ∧ w.length ≤ 8 ∧ 0 ≤ m ∧ m ≤ 30 := by
  unfold F_law_text at h
  split at h
  · exact ⟨_, _, _, rfl, need_sh h⟩
  · exact absurd rfl h
def textsN (c most : Int) : Nat := (mixZ c 9929 (most + 1)).toNat
def textsL (c : Int) (w : List Nat) (most : Int) : List (List Nat) := (List.range (textsN c most)).map fun (n : Nat) => textD (c + 101 * (n : Int)) w 12
def tsD (ts : List (List Nat)) : D := .tuple (ts.map D.str)
def F_law_texts : List D → Res D
  | [.int c, .str w, .int m] => Res.need (0 < w.length ∧ w.length ≤ 8 ∧ 0 ≤ m ∧ m ≤ 30) (.ok (tsD (textsL c w m)))
  | _ => .stuck
theorem sh_law_texts {ds : List D} (h : F_law_texts ds ≠ .stuck) : ∃ c w m, ds = [.int c, .str w, .int m] ∧ 0 < w.length ∧ w.length ≤ 8 ∧ 0 ≤ m ∧ m ≤ 30 := by
  unfold F_law_texts at h
  split at h
  · exact ⟨_, _, _, rfl, need_sh h⟩
  · exact absurd rfl h
theorem textsN_le {c m : Int} (h : 0 ≤ m) : (textsN c m : Int) ≤ m := by
  have l0 := mix_lo c 9929 (m := m + 1) (by omega)
  have l1 := mix_hi c 9929 (m := m + 1) (by omega)
  unfold textsN
  omega
def mannerB (c : Int) : Bool := decide (mixZ c 9923 2 = 0)
def mannerF (c : Int) : Bool := decide (mixZ c 9907 2 = 0)
def F_law_manner : List D → Res D
  | [.int c] => .ok (.tuple [.bool (mannerB c), .bool (mannerF c)])
  | _ => .stuck
theorem sh_law_manner {ds : List D} (h : F_law_manner ds ≠ .stuck) : ∃ c, ds = [.int c] := by
  unfold F_law_manner at h
  split at h
  · exact ⟨_, rfl⟩
  · exact absurd rfl h
/-! ### the law's own walks -/
def okW (w : List Nat) : Prop := w.Nodup ∧ 0 < w.length ∧ w.length ≤ 8
instance (w : List Nat) : Decidable (okW w) := by unfold okW; infer_instance
def F_law_walk : List D → Res D
  | [.str w, .str [a], .str [c]] => Res.need (okW w ∧ a ∈ w ∧ c ∈ w) (.ok (.int (fwd w a c)))
  | _ => .stuck
theorem sh_law_walk {ds : List D} (h : F_law_walk ds ≠ .stuck) : ∃ w a c, ds = [.str w, .str [a], .str [c]] ∧ okW w ∧ a ∈ w ∧ c ∈ w := by
  unfold F_law_walk at h
  split at h
  · exact ⟨_, _, _, rfl, need_sh h⟩
  · exact absurd rfl h
def F_law_way : List D → Res D
  | [.tuple [.bool b, .bool _], .str w, .str [a], .str [c]] => Res.need (okW w ∧ a ∈ w ∧ c ∈ w) (.ok (.int (wayZ b w a c)))
  | _ => .stuck
theorem sh_law_way {ds : List D} (h : F_law_way ds ≠ .stuck) : ∃ b f w a c, ds = [.tuple [.bool b, .bool f], .str w, .str [a], .str [c]] ∧ okW w ∧ a ∈ w ∧ c ∈ w := by
  unfold F_law_way at h
  split at h
  · exact ⟨_, _, _, _, _, rfl, need_sh h⟩
  · exact absurd rfl h
def F_law_far : List D → Res D
  | [.tuple [.bool b, .bool f], .str w, .str [a], .str [c]] => Res.need (okW w ∧ a ∈ w ∧ c ∈ w) (.ok (.int (farZ b f w a c)))
  | _ => .stuck
theorem sh_law_far {ds : List D} (h : F_law_far ds ≠ .stuck) : ∃ b f w a c, ds = [.tuple [.bool b, .bool f], .str w, .str [a], .str [c]] ∧ okW w ∧ a ∈ w ∧ c ∈ w := by
  unfold F_law_far at h
  split at h
  · exact ⟨_, _, _, _, _, rfl, need_sh h⟩
  · exact absurd rfl h
theorem way_back {b : Bool} {w : List Nat} {a c : Nat} (ha : a ∈ w) (hc : c ∈ w) : (if b = true ∧ fwd w c a < fwd w a c then fwd w c a else fwd w a c) = wayZ b w a c := by
  have h1 := idx_lt ha
  have h2 := idx_lt hc
  have e1 := fwd_eq ha hc
  have e2 := fwd_eq hc ha
  unfold wayZ
  generalize fwd w a c = x at *
  generalize fwd w c a = y at *
  cases b
  · simp
  · simp only [true_and, if_true]
    split at e1 <;> split at e2 <;> (split <;> split <;> omega)
theorem walk_step {w : List Nat} (hn : w.Nodup) {a c : Nat} (ha : a ∈ w) (hc : c ∈ w) {m : Nat} (hm : (m : Int) ≤ fwd w a c) : ∃ x, x ∈ w ∧ w[(w.idxOf a + m) % w.length]? = some x ∧ (x = c ↔ (m : Int) = fwd w a c) := by
  have h1 := idx_lt ha
  have h2 := idx_lt hc
  have hl : (w.idxOf a + m) % w.length < w.length := Nat.mod_lt _ (by omega)
  refine ⟨w[(w.idxOf a + m) % w.length], List.getElem_mem hl, List.getElem?_eq_getElem hl, ?_⟩
  have e1 := fwd_eq ha hc
  have hx : w[(w.idxOf a + m) % w.length] = c ↔ (w.idxOf a + m) % w.length = w.idxOf c := by
    constructor
    · intro e
      have := idx_of_get hn (l := w) (k := (w.idxOf a + m) % w.length) (x := c) (by rw [List.getElem?_eq_getElem hl, e])
      exact this.symm
    · intro e
      have := idx_get hc
      rw [← e, List.getElem?_eq_getElem hl] at this
      exact Option.some.inj this
  rw [hx]
  have hm2 : (m : Int) < w.length := by split at e1 <;> omega
  rcases Nat.lt_or_ge (w.idxOf a + m) w.length with q | q
  · rw [Nat.mod_eq_of_lt q]
    split at e1 <;> omega
  · rw [Nat.mod_eq_sub_mod q, Nat.mod_eq_of_lt (by omega)]
    split at e1 <;> omega
/-! ### steps -/
def inW (w t : List Nat) : Prop := (t.all fun c => decide (c ∈ w)) = true
instance (w t : List Nat) : Decidable (inW w t) := by unfold inW; infer_instance
theorem inW_mem {w t : List Nat} (h : inW w t) : ∀ c ∈ t, c ∈ w := fun c hc => by
  have := List.all_eq_true.mp h c hc
  simpa using this
/-- from the letter a on -/
def farL (b f : Bool) (w : List Nat) : Nat → List Nat → List Int
  | _, [] => []
  | a, c :: t => farZ b f w a c :: farL b f w c t
def stepsL (b f : Bool) (w : List Nat) : List Nat → List Int
  | [] => []
  | c :: t => wayZ b w (w.getD 0 0) c :: farL b f w c t
def F_law_steps : List D → Res D
  | [.tuple [.bool b, .bool f], .str w, .str t] => Res.need (okW w ∧ inW w t ∧ t.length ≤ 1000) (.ok (.tuple ((stepsL b f w t).map D.int)))
  | _ => .stuck
theorem sh_law_steps {ds : List D} (h : F_law_steps ds ≠ .stuck) : ∃ b f w t, ds = [.tuple [.bool b, .bool f], .str w, .str t] ∧ okW w ∧ inW w t ∧ t.length ≤ 1000 := by
  unfold F_law_steps at h
  split at h
  · exact ⟨_, _, _, _, rfl, need_sh h⟩
  · exact absurd rfl h
theorem farL_len (b f : Bool) (w : List Nat) : ∀ (a : Nat) (t : List Nat), (farL b f w a t).length = t.length
  | _, [] => rfl
  | a, c :: t => by
    show (farL b f w c t).length + 1 = _
    rw [farL_len b f w c t]
    rfl
theorem stepsL_len (b f : Bool) (w : List Nat) (t : List Nat) : (stepsL b f w t).length = t.length := by
  cases t with
  | nil => rfl
  | cons c t =>
    show (farL b f w c t).length + 1 = _
    rw [farL_len]
    rfl
theorem farL_get (b f : Bool) (w : List Nat) : ∀ (a : Nat) (t : List Nat) (n : Nat) (x y : Nat), (a :: t)[n]? = some x → t[n]? = some y → (farL b f w a t)[n]? = some (farZ b f w x y)
  | a, [], n, x, y, _, h => by simp at h
  | a, c :: t, 0, x, y, h, h2 => by
    simp at h h2
    subst h h2
    rfl
  | a, c :: t, n + 1, x, y, h, h2 => by
    show (farL b f w c t)[n]? = _
    exact farL_get b f w c t n x y (by simpa using h) (by simpa using h2)
theorem stepsL_get (b f : Bool) (w t : List Nat) {n x y : Nat} (h : t[n]? = some x) (h2 : t[n + 1]? = some y) : (stepsL b f w t)[n + 1]? = some (farZ b f w x y) := by
  cases t with
  | nil => simp at h
  | cons c t =>
    show (farL b f w c t)[n]? = _
    exact farL_get b f w c t n x y h (by simpa using h2)
theorem take_succ_at {α : Type} {l : List α} {n : Nat} {x : α} (h : l[n]? = some x) : l.take (n + 1) = l.take n ++ [x] := by
  rw [List.take_succ, h]
  rfl
def pulsesZ (b f : Bool) (w : List Nat) (ts : List (List Nat)) : Int := (ts.map fun t => (stepsL b f w t).sum).sum
def inWs (w : List Nat) (ts : List (List Nat)) : Prop := (ts.all fun t => (t.all fun c => decide (c ∈ w)) && decide (t.length ≤ 1000)) = true
instance (w : List Nat) (ts : List (List Nat)) : Decidable (inWs w ts) := by unfold inWs; infer_instance
theorem inWs_mem {w : List Nat} {ts : List (List Nat)} (h : inWs w ts) : ∀ t ∈ ts, inW w t ∧ t.length ≤ 1000 := fun t ht => by
  have := List.all_eq_true.mp h t ht
  rw [Bool.and_eq_true] at this
  exact ⟨this.1, by simpa using this.2⟩
/-- the texts that the data are -/
def strsD : List D → Option (List (List Nat))
  | [] => some []
  | .str t :: r => (strsD r).map (t :: ·)
  | _ => none
theorem strsD_map (ts : List (List Nat)) : strsD (ts.map D.str) = some ts := by
  induction ts with
  | nil => rfl
  | cons t ts ih =>
    show (strsD (ts.map D.str)).map (t :: ·) = _
    rw [ih]
    rfl
theorem strsD_eq : ∀ {l : List D} {ts : List (List Nat)}, strsD l = some ts → l = ts.map D.str
  | [], ts, h => by
    unfold strsD at h
    cases h
    rfl
  | d :: l, ts, h => by
    cases d with
    | str t =>
      unfold strsD at h
      cases e : strsD l with
      | none => rw [e] at h; cases h
      | some us =>
        rw [e] at h
        cases h
        rw [strsD_eq e]
        rfl
    | _ => cases h
def F_law_pulses : List D → Res D
  | [.tuple [.bool b, .bool f], .str w, .tuple l] => match strsD l with
    | some ts => Res.need (okW w ∧ inWs w ts ∧ ts.length ≤ 1000) (.ok (.int (pulsesZ b f w ts)))
    | none => .stuck
  | _ => .stuck
theorem sh_law_pulses {ds : List D} (h : F_law_pulses ds ≠ .stuck) : ∃ b f w ts, ds = [.tuple [.bool b, .bool f], .str w, tsD ts] ∧ okW w ∧ inWs w ts ∧ ts.length ≤ 1000 := by
  unfold F_law_pulses at h
  split at h
  · split at h
    · rename_i e
      have := strsD_eq e
      subst this
      exact ⟨_, _, _, _, rfl, need_sh h⟩
    · exact absurd rfl h
  · exact absurd rfl h
/-! ### the law's own sameness -/
def sameD : Nat → D → D → Bool
  | n + 1, .tuple l, .tuple m => decide (l.length = m.length ∧ l.length ≤ 1000) && (l.zip m).all fun p => sameD n p.1 p.2
  | _, .none, .none => true
  | _, .bool a, .bool b => a == b
  | _, .int a, .int b => a == b
  | _, .str a, .str b => a == b
  | _, _, _ => false
def Fr_law_same : Nat → List D → Res D
  | 0 => fun _ => .stuck
  | n + 1 => fun ds => match ds with
    | [x, y] => Res.need (sameD n x y = true) (.ok (.bool true))
    | _ => .stuck
abbrev F_law_same := Fr_law_same 6
theorem sh_law_same {n : Nat} {ds : List D} (h : Fr_law_same (n + 1) ds ≠ .stuck) : ∃ x y, ds = [x, y] ∧ sameD n x y = true := by
  unfold Fr_law_same at h
  dsimp only at h
  split at h
  · exact ⟨_, _, rfl, need_sh h⟩
  · exact absurd rfl h
theorem sameD_tup {n : Nat} {l m : List D} (h : sameD (n + 1) (.tuple l) (.tuple m) = true) : (l.length = m.length ∧ l.length ≤ 1000) ∧ ∀ p ∈ l.zip m, sameD n p.1 p.2 = true := by
  unfold sameD at h
  rw [Bool.and_eq_true] at h
  exact ⟨of_decide_eq_true h.1, List.all_eq_true.mp h.2⟩
theorem zipD_mem : ∀ {l m : List D} {q : D → D → Prop}, (∀ p ∈ l.zip m, q p.1 p.2) → ∀ {d : D}, d ∈ zipD l m → ∃ a b, d = .tuple [a, b] ∧ q a b
  | [], m, q, h, d, hd => by cases hd
  | x :: l, [], q, h, d, hd => by cases hd
  | x :: l, y :: m, q, h, d, hd => by
    rcases List.mem_cons.mp hd with e | hd
    · exact ⟨x, y, e, h (x, y) (by simp)⟩
    · exact zipD_mem (fun p hp => h p (by simp [hp])) hd
theorem sameD_int (n : Nat) (i : Int) : sameD n (.int i) (.int i) = true := by cases n <;> simp [sameD]
theorem sameD_str (n : Nat) (i : List Nat) : sameD n (.str i) (.str i) = true := by cases n <;> simp [sameD]
theorem sameD_bool (n : Nat) (i : Bool) : sameD n (.bool i) (.bool i) = true := by cases n <;> simp [sameD]
theorem zip_self_mem {α : Type} : ∀ {l : List α} {p : α × α}, p ∈ l.zip l → p.1 = p.2 ∧ p.1 ∈ l
  | [], p, h => by cases h
  | x :: l, p, h => by
    rcases List.mem_cons.mp h with e | h
    · subst e
      exact ⟨rfl, List.mem_cons_self⟩
    · obtain ⟨h1, h2⟩ := zip_self_mem h
      exact ⟨h1, List.mem_cons_of_mem _ h2⟩
theorem sameD_self {n : Nat} {l : List D} (hl : l.length ≤ 1000) (h : ∀ d ∈ l, sameD n d d = true) : sameD (n + 1) (.tuple l) (.tuple l) = true := by
  unfold sameD
  rw [Bool.and_eq_true]
  refine ⟨decide_eq_true ⟨rfl, hl⟩, List.all_eq_true.mpr fun p hp => ?_⟩
  obtain ⟨h1, h2⟩ := zip_self_mem hp
  rw [← h1]
  exact h _ h2
end Lw
namespace Lw
open PySem L2 DL
/-! ### statements over dicts and read lists -/
theorem sq_forN {i : Nat} {k : D → DL.Env → Option DL.Env} {g q : DS} {d : DE} {ε : DL.Env} {y : D} {xs : List D} (h : ε[i]? = some (some (.fz y))) (hx : items y = .ok xs) (I : Nat → DL.Env → Prop) (h0 : I 0 ε)
    (hs : ∀ (j : Nat) (x : D) (ε2 : DL.Env), xs[j]? = some x → I j ε2 → imm x = true ∧ ∃ ε3, k x ε2 = some ε3 ∧ g { nx := I (j + 1), rt := d.rt, ex := d.ex, bk := q d, ct := I (j + 1) } ε3) (hd : ∀ ε2, I xs.length ε2 → q d ε2) : gSeq (gForN i k g) q d ε := by
  refine ⟨y, h, ?_⟩
  rw [hx]
  exact ⟨I, h0, hs, hd⟩
theorem for_N {i : Nat} {k : D → DL.Env → Option DL.Env} {g : DS} {d : DE} {ε : DL.Env} {y : D} {xs : List D} (h : ε[i]? = some (some (.fz y))) (hx : items y = .ok xs) (I : Nat → DL.Env → Prop) (h0 : I 0 ε)
    (hs : ∀ (j : Nat) (x : D) (ε2 : DL.Env), xs[j]? = some x → I j ε2 → imm x = true ∧ ∃ ε3, k x ε2 = some ε3 ∧ g { nx := I (j + 1), rt := d.rt, ex := d.ex, bk := d.nx, ct := I (j + 1) } ε3) (hd : ∀ ε2, I xs.length ε2 → d.nx ε2) : gForN i k g d ε := by
  refine ⟨y, h, ?_⟩
  rw [hx]
  exact ⟨I, h0, hs, hd⟩
theorem st_put {i : Nat} {fk fv : Dv → Res D} {d : DE} {ε : DL.Env} (e k x e2 : D) (he : ε[i]? = some (some (.ow e))) (hv : fv (view ε) = .ok x) (ix : imm x = true) (hk : fk (view ε) = .ok k) (hp : putR e k x = some e2) (hz : lenD e < big) (hn : d.nx (ε.set i (some (.ow e2)))) : gPut i fk fv d ε := by
  refine ⟨e, he, ?_⟩
  rw [hv]
  refine ⟨ix, ?_⟩
  rw [hk]
  exact ⟨e2, hp, hz, hn⟩
theorem sq_newK {i : Nat} {q : DS} {d : DE} {ε : DL.Env} (hi : i < ε.length) (hn : q d (ε.set i (some (.ow (.dicK [] []))))) : gSeq (gNewD i) q d ε := ⟨hi, .inl hn⟩
theorem sq_newT {i : Nat} {q : DS} {d : DE} {ε : DL.Env} (hi : i < ε.length) (hn : q d (ε.set i (some (.ow (.dicT [] []))))) : gSeq (gNewD i) q d ε := ⟨hi, .inr hn⟩
/-! ### tables: keys as they are first met, and the sums at each -/
section
variable {κ : Type} [DecidableEq κ]
def uniq (js : List κ) : List κ := js.foldl putKs []
theorem uniq_snoc (js : List κ) (j : κ) : uniq (js ++ [j]) = putKs (uniq js) j := by
  unfold uniq
  rw [List.foldl_append]
  rfl
theorem mem_putKs {ks : List κ} {j k : κ} : k ∈ putKs ks j ↔ k ∈ ks ∨ k = j := by
  unfold putKs
  split
  · constructor
    · exact fun h => .inl h
    · rintro (h | rfl)
      · exact h
      · assumption
  · rw [List.mem_append, List.mem_singleton]
theorem mem_fold : ∀ (js ks : List κ) (k : κ), k ∈ js.foldl putKs ks ↔ k ∈ ks ∨ k ∈ js
  | [], ks, k => by simp
  | j :: js, ks, k => by
    show k ∈ js.foldl putKs (putKs ks j) ↔ _
    rw [mem_fold js, mem_putKs, List.mem_cons]
    constructor
    · rintro ((h | h) | h)
      · exact .inl h
      · exact .inr (.inl h)
      · exact .inr (.inr h)
    · rintro (h | h | h)
      · exact .inl (.inl h)
      · exact .inl (.inr h)
      · exact .inr h
theorem mem_uniq {js : List κ} {k : κ} : k ∈ uniq js ↔ k ∈ js := by
  unfold uniq
  rw [mem_fold]
  simp
theorem nodup_putKs {ks : List κ} {j : κ} (h : ks.Nodup) : (putKs ks j).Nodup := by
  unfold putKs
  split
  · exact h
  · rename_i q
    rw [List.nodup_append]
    refine ⟨h, by simp, fun a ha b hb => ?_⟩
    rw [List.mem_singleton.mp hb]
    exact fun e => q (e ▸ ha)
theorem nodup_fold : ∀ (js ks : List κ), ks.Nodup → (js.foldl putKs ks).Nodup
  | [], _, h => h
  | j :: js, ks, h => nodup_fold js (putKs ks j) (nodup_putKs h)
theorem nodup_uniq (js : List κ) : (uniq js).Nodup := nodup_fold js [] List.nodup_nil
theorem uniq_len (js : List κ) : (uniq js).length ≤ js.length := by
  have key : ∀ (js ks : List κ), (js.foldl putKs ks).length ≤ ks.length + js.length := by
    intro js
    induction js with
    | nil => intro ks; exact Nat.le_refl _
    | cons j js ih =>
      intro ks
      have h1 := ih (putKs ks j)
      have h2 : (putKs ks j).length ≤ ks.length + 1 := by
        unfold putKs
        split
        · omega
        · rw [List.length_append]; exact Nat.le_refl _
      show (js.foldl putKs (putKs ks j)).length ≤ _
      rw [List.length_cons]
      omega
  have := key js []
  simpa [uniq] using this
def wsum (ps : List (κ × Int)) (k : κ) : Int := ((ps.filter fun p => decide (p.1 = k)).map (·.2)).sum
theorem wsum_snoc (ps : List (κ × Int)) (j k : κ) (x : Int) : wsum (ps ++ [(j, x)]) k = wsum ps k + if j = k then x else 0 := by
  unfold wsum
  rw [List.filter_append, List.map_append, List.sum_append]
  congr 1
  by_cases h : j = k <;> simp [h]
theorem wsum_none {ps : List (κ × Int)} {k : κ} (h : k ∉ ps.map (·.1)) : wsum ps k = 0 := by
  unfold wsum
  have : ps.filter (fun p => decide (p.1 = k)) = [] := by
    rw [List.filter_eq_nil_iff]
    intro p hp
    have : p.1 ≠ k := fun e => h (e ▸ List.mem_map_of_mem hp)
    simpa using this
  rw [this]
  rfl
def tabK (ps : List (κ × Int)) : List κ := uniq (ps.map (·.1))
def tabV (ps : List (κ × Int)) : List D := (tabK ps).map fun k => D.int (wsum ps k)
theorem valD_map (f : κ → D) (j : κ) : ∀ ks : List κ, valD ks (ks.map f) j = if j ∈ ks then some (f j) else none
  | [] => rfl
  | k :: ks => by
    by_cases h : k = j
    · subst h
      simp [valD]
    · have h' : ¬ j = k := fun e => h e.symm
      simp only [List.map_cons, valD, h, if_false, List.mem_cons, h', false_or]
      exact valD_map f j ks
theorem putDv_map (f : κ → D) (j : κ) (x : D) : ∀ ks : List κ, putDv ks (ks.map f) j x = ks.map fun k => if k = j then x else f k
  | [] => rfl
  | k :: ks => by
    simp only [List.map_cons, putDv]
    rw [putDv_map f j x ks]
theorem tab_get (ps : List (κ × Int)) (j : κ) : (valD (tabK ps) (tabV ps) j).getD (.int 0) = .int (wsum ps j) := by
  unfold tabV
  rw [valD_map]
  split
  · rfl
  · rename_i h
    have : j ∉ ps.map (·.1) := fun z => h (mem_uniq.mpr z)
    rw [wsum_none this]
    rfl
theorem tabK_snoc (ps : List (κ × Int)) (j : κ) (x : Int) : tabK (ps ++ [(j, x)]) = putKs (tabK ps) j := by
  unfold tabK
  rw [List.map_append]
  exact uniq_snoc _ _
theorem tabV_snoc (ps : List (κ × Int)) (j : κ) (x : Int) : tabV (ps ++ [(j, x)]) = putVs (tabK ps) (tabV ps) j (.int (wsum ps j + x)) := by
  unfold putVs
  have e0 : tabV (ps ++ [(j, x)]) = (putKs (tabK ps) j).map fun k => D.int (wsum (ps ++ [(j, x)]) k) := by
    rw [← tabK_snoc ps j x]
    rfl
  rw [e0]
  unfold putKs
  split
  · unfold tabV
    rw [putDv_map]
    apply List.map_congr_left
    intro k _
    rw [wsum_snoc]
    by_cases h : k = j
    · subst h
      simp
    · have h' : ¬ j = k := fun e => h e.symm
      simp [h, h']
  · rename_i q
    rw [List.map_append]
    congr 1
    · unfold tabV
      apply List.map_congr_left
      intro k hk
      have h' : ¬ j = k := fun e => q (e ▸ hk)
      rw [wsum_snoc, if_neg h', Int.add_zero]
    · show [D.int (wsum (ps ++ [(j, x)]) j)] = _
      rw [wsum_snoc, if_pos rfl]
theorem tabV_len (ps : List (κ × Int)) : (tabV ps).length = (tabK ps).length := by
  unfold tabV
  rw [List.length_map]
def ones (js : List κ) : List (κ × Int) := js.map fun j => (j, 1)
end
def tupK : D → Option (List Key)
  | .tuple l => keysD l
  | _ => none
def tupsD : List D → Option (List (List Key))
  | [] => some []
  | d :: ds => match tupK d, tupsD ds with
    | some k, some ks => some (k :: ks)
    | _, _ => none
def F_table_of : List D → Res D
  | [.list l] => match keysD l with
    | some js => Res.need (l.length ≤ 100000) (.ok (.dicK (tabK (ones js)) (tabV (ones js))))
    | none => match tupsD l with
      | some js => Res.need (l.length ≤ 100000) (.ok (.dicT (tabK (ones js)) (tabV (ones js))))
      | none => .stuck
  | _ => .stuck
theorem keysD_get : ∀ {l : List D} {js : List Key} {i : Nat} {d : D}, keysD l = some js → l[i]? = some d → ∃ k, js[i]? = some k ∧ keyD d = some k
  | [], js, i, d, _, h => by simp at h
  | e :: l, js, i, d, h, h2 => by
    unfold keysD at h
    cases e1 : keyD e with
    | none => rw [e1] at h; cases h
    | some k =>
      cases e2 : keysD l with
      | none => rw [e1, e2] at h; cases h
      | some m =>
        rw [e1, e2] at h
        cases h
        cases i with
        | zero =>
          simp at h2
          subst h2
          exact ⟨k, rfl, e1⟩
        | succ i =>
          show ∃ u, m[i]? = some u ∧ _
          exact keysD_get e2 (show l[i]? = some d by simpa using h2)
theorem keysD_len : ∀ {l : List D} {js : List Key}, keysD l = some js → js.length = l.length
  | [], js, h => by unfold keysD at h; cases h; rfl
  | e :: l, js, h => by
    unfold keysD at h
    cases e1 : keyD e with
    | none => rw [e1] at h; cases h
    | some k =>
      cases e2 : keysD l with
      | none => rw [e1, e2] at h; cases h
      | some m =>
        rw [e1, e2] at h
        cases h
        rw [List.length_cons, List.length_cons, keysD_len e2]
theorem tupsD_get : ∀ {l : List D} {js : List (List Key)} {i : Nat} {d : D}, tupsD l = some js → l[i]? = some d → ∃ k, js[i]? = some k ∧ tupK d = some k
  | [], js, i, d, _, h => by simp at h
  | e :: l, js, i, d, h, h2 => by
    unfold tupsD at h
    cases e1 : tupK e with
    | none => rw [e1] at h; cases h
    | some k =>
      cases e2 : tupsD l with
      | none => rw [e1, e2] at h; cases h
      | some m =>
        rw [e1, e2] at h
        cases h
        cases i with
        | zero =>
          simp at h2
          subst h2
          exact ⟨k, rfl, e1⟩
        | succ i =>
          show ∃ u, m[i]? = some u ∧ _
          exact tupsD_get e2 (show l[i]? = some d by simpa using h2)
theorem tupsD_len : ∀ {l : List D} {js : List (List Key)}, tupsD l = some js → js.length = l.length
  | [], js, h => by unfold tupsD at h; cases h; rfl
  | e :: l, js, h => by
    unfold tupsD at h
    cases e1 : tupK e with
    | none => rw [e1] at h; cases h
    | some k =>
      cases e2 : tupsD l with
      | none => rw [e1, e2] at h; cases h
      | some m =>
        rw [e1, e2] at h
        cases h
        rw [List.length_cons, List.length_cons, tupsD_len e2]
theorem keyD_imm {d : D} {k : Key} (h : keyD d = some k) : imm d = true := by
  cases d <;> first | rfl | cases h
theorem keysD_imm : ∀ {l : List D} {js : List Key}, keysD l = some js → immAll l = true
  | [], js, h => rfl
  | e :: l, js, h => by
    unfold keysD at h
    cases e1 : keyD e with
    | none => rw [e1] at h; cases h
    | some k =>
      cases e2 : keysD l with
      | none => rw [e1, e2] at h; cases h
      | some m => rw [immAll_cons, keyD_imm e1, keysD_imm e2]; rfl
theorem tupK_eq {d : D} {k : List Key} (h : tupK d = some k) : ∃ l, d = .tuple l ∧ keysD l = some k := by
  cases d with
  | tuple l => exact ⟨l, rfl, h⟩
  | _ => cases h
theorem ones_take {κ : Type} [DecidableEq κ] {js : List κ} {i : Nat} {k : κ} (h : js[i]? = some k) : ones (js.take (i + 1)) = ones (js.take i) ++ [(k, 1)] := by
  unfold ones
  rw [take_succ_at h, List.map_append]
  rfl
theorem tab_small {κ : Type} [DecidableEq κ] {js : List κ} {i : Nat} (h : js.length ≤ 100000) : (tabK (ones (js.take i))).length < big := by
  have h1 := uniq_len ((ones (js.take i)).map (·.1))
  have h2 : ((ones (js.take i)).map (·.1)).length ≤ js.length := by
    unfold ones
    rw [List.length_map, List.length_map, List.length_take]
    omega
  unfold tabK big
  omega
theorem sh_table_of {ds : List D} (h : F_table_of ds ≠ .stuck) : ∃ l, ds = [.list l] ∧ ((∃ js, keysD l = some js ∧ l.length ≤ 100000) ∨ ∃ js, keysD l = none ∧ tupsD l = some js ∧ l.length ≤ 100000) := by
  match ds, h with
  | [.list l], h =>
    refine ⟨l, rfl, ?_⟩
    cases e1 : keysD l with
    | some js =>
      unfold F_table_of at h
      simp only [e1] at h
      exact .inl ⟨js, rfl, need_sh h⟩
    | none =>
      cases e2 : tupsD l with
      | some js =>
        unfold F_table_of at h
        simp only [e1, e2] at h
        exact .inr ⟨js, rfl, rfl, need_sh h⟩
      | none =>
        unfold F_table_of at h
        simp only [e1, e2] at h
        exact absurd rfl h
  | [], h => exact absurd rfl h
  | a :: b :: r, h => exact absurd (by unfold F_table_of; split <;> first | rfl | simp_all) h
  | [.none], h | [.bool _], h | [.int _], h | [.str _], h | [.tuple _], h | [.dicK _ _], h | [.dicT _ _], h | [.scr _], h => exact absurd rfl h
end Lw
namespace Lw
open PySem L2 DL
/-! ### pairs of letters, sorted -/
def leP (p q : Nat × Nat) : Bool := decide (p.1 < q.1 ∨ (p.1 = q.1 ∧ p.2 ≤ q.2))
def pairD (p : Nat × Nat) : D := .tuple [.str [p.1], .str [p.2]]
theorem lt_one (a b : Nat) : ([a] < [b]) ↔ a < b := by
  constructor
  · intro z
    rcases List.cons_lt_cons_iff.mp z with z | ⟨_, z⟩
    · exact z
    · exact absurd z (List.not_lt_nil _)
  · exact fun z => List.cons_lt_cons_iff.mpr (.inl z)
theorem dLt_sign (a b : Nat) : PySem.W.dataLt (.str (S [a])) (.str (S [b])) = decide (a < b) := by
  rw [PySem.W.dataLt_str]
  have e : ∀ c : Nat, (S [c]).cps.toList = [c] := fun c => by simp [S]
  rw [e, e]
  by_cases h : a < b
  · rw [decide_eq_true h]; exact decide_eq_true ((lt_one a b).mpr h)
  · rw [decide_eq_false h]; exact decide_eq_false fun z => h ((lt_one a b).mp z)
theorem eqv_sign (a b : Nat) : PyData.eqv (.str (S [a])) (.str (S [b])) = decide (a = b) := by
  unfold PyData.eqv
  by_cases h : a = b
  · subst h; simp
  · have : S [a] ≠ S [b] := fun z => h (by have := S_inj z; simpa using this)
    rw [decide_eq_false h]
    simpa using this
theorem pair_py (p : Nat × Nat) : toPy (pairD p) = .tuple [.str (S [p.1]), .str (S [p.2])] := by
  unfold pairD toPy toPyAll toPy
  unfold toPyAll toPy toPyAll
  rfl
theorem le_pair (p q : Nat × Nat) : PySem.W.dataLe false toPy (pairD p) (pairD q) = leP p q := by
  rw [PySem.W.dataLe_eq]
  show (!PySem.W.dataLt (toPy (pairD q)) (toPy (pairD p))) = _
  rw [pair_py, pair_py, PySem.W.dataLt_pair (by simp [PySem.W.alike]) (by simp [PySem.W.alike]), dLt_sign, dLt_sign, eqv_sign, eqv_sign]
  unfold leP
  by_cases h1 : q.1 = p.1 <;> by_cases h2 : q.2 = p.2 <;> by_cases h3 : q.1 < p.1 <;> by_cases h4 : q.2 < p.2 <;> simp [h1, h2, h3, h4] <;> omega
def sortP (ps : List (Nat × Nat)) : List (Nat × Nat) := ps.mergeSort leP
theorem sortD_pairs (ps : List (Nat × Nat)) : sortD (ps.map pairD) = (sortP ps).map pairD := by
  unfold sortD sortP
  symm
  exact List.map_mergeSort (f := pairD) (r := leP) (s := fun a b => PySem.W.dataLe false toPy a b) fun a _ b _ => (le_pair a b).symm
/-! the sorted list of what is met once is the one that rises with the same members -/
theorem sortP_eq {ps qs : List (Nat × Nat)} (hn : ps.Nodup) (hq : qs.Pairwise fun p q => leP p q = true) (hqn : qs.Nodup) (hm : ∀ p, p ∈ ps ↔ p ∈ qs) : sortP ps = qs := by
  have pm : (sortP ps).Perm qs := (List.mergeSort_perm _ _).trans ((List.perm_ext_iff_of_nodup hn hqn).mpr hm)
  have s1 : (sortP ps).Pairwise fun p q => leP p q = true := List.pairwise_mergeSort (le := leP) (fun a b c h1 h2 => by simp [leP] at *; omega) (fun a b => by simp [leP]; omega) ps
  exact pm.eq_of_pairwise (fun a b _ _ h1 h2 => by
    simp [leP] at h1 h2
    exact Prod.ext (by omega) (by omega)) s1 hq
section
variable {κ μ : Type} [DecidableEq κ] [DecidableEq μ]
theorem putKs_map {f : κ → μ} (hf : ∀ a b, f a = f b → a = b) (ks : List κ) (j : κ) : putKs (ks.map f) (f j) = (putKs ks j).map f := by
  unfold putKs
  have e : f j ∈ ks.map f ↔ j ∈ ks := by
    rw [List.mem_map]
    constructor
    · rintro ⟨a, ha, e⟩
      exact hf a j e ▸ ha
    · exact fun h => ⟨j, h, rfl⟩
  by_cases h : j ∈ ks
  · rw [if_pos h, if_pos (e.mpr h)]
  · rw [if_neg h, if_neg fun z => h (e.mp z), List.map_append]
    rfl
theorem uniq_map {f : κ → μ} (hf : ∀ a b, f a = f b → a = b) (js : List κ) : uniq (js.map f) = (uniq js).map f := by
  have key : ∀ (js ks : List κ), (js.map f).foldl putKs (ks.map f) = (js.foldl putKs ks).map f := by
    intro js
    induction js with
    | nil => intro ks; rfl
    | cons j js ih =>
      intro ks
      show (js.map f).foldl putKs (putKs (ks.map f) (f j)) = _
      rw [putKs_map hf]
      exact ih (putKs ks j)
  exact key js []
theorem wsum_map {f : κ → μ} (hf : ∀ a b, f a = f b → a = b) (ps : List (κ × Int)) (k : κ) : wsum (ps.map fun p => (f p.1, p.2)) (f k) = wsum ps k := by
  unfold wsum
  rw [List.filter_map, List.map_map]
  congr 1
  have e : ((fun p : μ × Int => decide (p.1 = f k)) ∘ fun p : κ × Int => (f p.1, p.2)) = fun p : κ × Int => decide (p.1 = k) := by
    funext p
    show decide (f p.1 = f k) = decide (p.1 = k)
    by_cases h : p.1 = k
    · rw [h]; simp
    · rw [decide_eq_false h, decide_eq_false fun z => h (hf _ _ z)]
  rw [e]
  rfl
end
/-! ### pairs as keys -/
def keyP (p : Nat × Nat) : List Key := [.inr (S [p.1]), .inr (S [p.2])]
theorem keyP_inj (p q : Nat × Nat) (h : keyP p = keyP q) : p = q := by
  unfold keyP at h
  simp only [List.cons.injEq, Sum.inr.injEq, and_true] at h
  have h1 := S_inj h.1
  have h2 := S_inj h.2
  simp at h1 h2
  exact Prod.ext h1 h2
theorem tupK_pair (p : Nat × Nat) : tupK (pairD p) = some (keyP p) := rfl
theorem keysD_pair (p : Nat × Nat) : keysD [.str [p.1], .str [p.2]] = some (keyP p) := rfl
theorem tupsD_pairs (ps : List (Nat × Nat)) : tupsD (ps.map pairD) = some (ps.map keyP) := by
  induction ps with
  | nil => rfl
  | cons p ps ih =>
    show (match tupK (pairD p), tupsD (ps.map pairD) with
      | some k, some ks => some (k :: ks)
      | _, _ => none) = _
    rw [ih]
    rfl
theorem keysD_pairs (p : Nat × Nat) (ps : List (Nat × Nat)) : keysD ((p :: ps).map pairD) = none := rfl
def cntP (ps : List (Nat × Nat)) (p : Nat × Nat) : Int := wsum (ones ps) p
theorem tabK_pairs (ps : List (Nat × Nat)) : tabK (ones (ps.map keyP)) = (uniq ps).map keyP := by
  unfold tabK ones
  rw [List.map_map, List.map_map]
  exact uniq_map keyP_inj ps
theorem tabV_pairs (ps : List (Nat × Nat)) : tabV (ones (ps.map keyP)) = (uniq ps).map fun p => D.int (cntP ps p) := by
  unfold tabV
  rw [tabK_pairs, List.map_map]
  apply List.map_congr_left
  intro p _
  show D.int (wsum (ones (ps.map keyP)) (keyP p)) = _
  have e : ones (ps.map keyP) = (ones ps).map fun q => (keyP q.1, q.2) := by
    unfold ones
    rw [List.map_map, List.map_map]
    rfl
  rw [e, wsum_map keyP_inj]
  rfl
theorem table_pairs {ps : List (Nat × Nat)} (hn : ps ≠ []) (hl : ps.length ≤ 100000) : F_table_of [.list (ps.map pairD)] = .ok (.dicT ((uniq ps).map keyP) ((uniq ps).map fun p => D.int (cntP ps p))) := by
  have e1 : keysD (ps.map pairD) = none := by
    cases ps with
    | nil => exact absurd rfl hn
    | cons p ps => exact keysD_pairs p ps
  have e2 := tupsD_pairs ps
  unfold F_table_of
  simp only [e1, e2]
  rw [need_ok (by rw [List.length_map]; exact hl), tabK_pairs, tabV_pairs]
theorem look_pair (us ps : List (Nat × Nat)) (p : Nat × Nat) (h : p ∈ us) : lookR (.dicT (us.map keyP) (us.map fun q => D.int (cntP ps q))) (pairD p) = .ok (some (.int (cntP ps p))) := by
  show (match keysD [.str [p.1], .str [p.2]] with
    | some j => Res.ok (valD (us.map keyP) (us.map fun q => D.int (cntP ps q)) j)
    | none => Res.stuck) = _
  rw [keysD_pair]
  show Res.ok (valD (us.map keyP) (us.map fun q => D.int (cntP ps q)) (keyP p)) = _
  congr 1
  induction us with
  | nil => cases h
  | cons u us ih =>
    by_cases e : u = p
    · subst e
      simp [valD]
    · have e2 : keyP u ≠ keyP p := fun z => e (keyP_inj _ _ z)
      have hp : p ∈ us := by
        rcases List.mem_cons.mp h with z | z
        · exact absurd z.symm e
        · exact z
      simp only [List.map_cons, valD, e2, if_false]
      exact ih hp
theorem keyDD_pair (p : Nat × Nat) : D.tuple ((keyP p).map keyDD) = pairD p := by
  unfold keyP pairD
  simp [keyDD, S]
def sgnP (ps : List (Nat × Nat)) : Prop := ∀ p ∈ ps, p.1 < 0x110000 ∧ p.2 < 0x110000
theorem shp_pairs {us : List (Nat × Nat)} (h : sgnP us) : shpAll 9 (us.map pairD) = true := by
  induction us with
  | nil => unfold shpAll; rfl
  | cons u us ih =>
    have h1 := h u List.mem_cons_self
    show shpAll 9 (pairD u :: us.map pairD) = true
    unfold shpAll
    rw [ih fun p hp => h p (List.mem_cons_of_mem _ hp), Bool.and_true]
    unfold pairD shp shpAll shp shpAll shp shpAll
    simp [h1]
theorem sorted_pairs {us : List (Nat × Nat)} {vs : List D} (h : sgnP us) (hl : us.length ≤ 100000) : cSorted [.dicT (us.map keyP) vs] = .ok (.list ((sortP us).map pairD)) := by
  have e : (us.map keyP).map (fun k => D.tuple (k.map keyDD)) = us.map pairD := by
    rw [List.map_map]
    apply List.map_congr_left
    intro p _
    exact keyDD_pair p
  have e0 : cSorted [.dicT (us.map keyP) vs] = Res.need (shortS (.dicT (us.map keyP) vs) = true ∧ shpAll 9 ((us.map keyP).map fun k => D.tuple (k.map keyDD)) = true ∧ alk ((us.map keyP).map fun k => D.tuple (k.map keyDD)) = true ∧ srt ((us.map keyP).map fun k => D.tuple (k.map keyDD)) = true ∧ ((us.map keyP).map fun k => D.tuple (k.map keyDD)).length ≤ big) (.ok (.list (sortD ((us.map keyP).map fun k => D.tuple (k.map keyDD))))) := rfl
  have c1 : alk (us.map pairD) = true := by
    unfold alk
    rw [List.all_eq_true]
    intro a ha
    rw [List.all_eq_true]
    intro b hb
    obtain ⟨p, _, rfl⟩ := List.mem_map.mp ha
    obtain ⟨q, _, rfl⟩ := List.mem_map.mp hb
    rw [pair_py, pair_py]
    simp [PySem.W.alike, PySem.W.alikeAll]
  have c2 : srt (us.map pairD) = true := by
    unfold srt
    rw [Bool.or_eq_true]
    left
    rw [List.all_eq_true]
    intro a ha
    obtain ⟨p, _, rfl⟩ := List.mem_map.mp ha
    rfl
  rw [e0, e, need_ok ⟨rfl, shp_pairs h, c1, c2, by rw [List.length_map]; unfold big; omega⟩, sortD_pairs]
theorem compM_on {α : Type} {f : D → Res (List D)} {e g : α → D} : ∀ {l : List α}, (∀ x ∈ l, f (e x) = .ok [g x]) → compM f (l.map e) = .ok (l.map g)
  | [], _ => rfl
  | x :: l, h => by
    show (f (e x)).bind _ = _
    rw [h x List.mem_cons_self, Res.ok_bind, compM_on fun y hy => h y (List.mem_cons_of_mem _ hy)]
    rfl
/-! ### counts -/
def prs : List Nat → List (Nat × Nat)
  | a :: c :: t => (a, c) :: prs (c :: t)
  | _ => []
theorem prs_len : ∀ t : List Nat, (prs t).length = t.length - 1
  | [] => rfl
  | [_] => rfl
  | a :: c :: t => by
    show (prs (c :: t)).length + 1 = _
    rw [prs_len (c :: t)]
    simp
theorem prs_get : ∀ {t : List Nat} {n x y : Nat}, t[n]? = some x → t[n + 1]? = some y → (prs t)[n]? = some (x, y)
  | [], n, x, y, h, _ => by simp at h
  | [_], n, x, y, _, h => by simp at h
  | a :: c :: t, 0, x, y, h, h2 => by
    simp at h h2
    subst h h2
    rfl
  | a :: c :: t, n + 1, x, y, h, h2 => by
    show (prs (c :: t))[n]? = _
    exact prs_get (by simpa using h) (by simpa using h2)
theorem prs_mem {p : Nat × Nat} : ∀ {t : List Nat}, p ∈ prs t → p.1 ∈ t ∧ p.2 ∈ t
  | [], h => by cases h
  | [_], h => by cases h
  | a :: c :: t, h => by
    rcases List.mem_cons.mp h with e | h
    · subst e
      simp
    · obtain ⟨h1, h2⟩ := prs_mem h
      exact ⟨List.mem_cons_of_mem _ h1, List.mem_cons_of_mem _ h2⟩
def allPrs (ts : List (List Nat)) : List (Nat × Nat) := ts.flatMap prs
theorem allPrs_len {ts : List (List Nat)} (h : ∀ t ∈ ts, t.length ≤ 1000) : (allPrs ts).length ≤ 1000 * ts.length := by
  induction ts with
  | nil => exact Nat.le_refl _
  | cons t ts ih =>
    have h1 := h t List.mem_cons_self
    have h2 := ih fun u hu => h u (List.mem_cons_of_mem _ hu)
    show (prs t ++ allPrs ts).length ≤ _
    rw [List.length_append, prs_len, List.length_cons]
    omega
def sgnT (ts : List (List Nat)) : Prop := (ts.all fun t => (t.all fun c => decide (c < 0x110000)) && decide (t.length ≤ 1000)) = true
instance (ts : List (List Nat)) : Decidable (sgnT ts) := by unfold sgnT; infer_instance
theorem sgnT_mem {ts : List (List Nat)} (h : sgnT ts) : ∀ t ∈ ts, (∀ c ∈ t, c < 0x110000) ∧ t.length ≤ 1000 := fun t ht => by
  have := List.all_eq_true.mp h t ht
  rw [Bool.and_eq_true] at this
  exact ⟨fun c hc => by simpa using List.all_eq_true.mp this.1 c hc, by simpa using this.2⟩
theorem sgn_prs {ts : List (List Nat)} (h : sgnT ts) : sgnP (allPrs ts) := fun p hp => by
  obtain ⟨t, ht, hp⟩ := List.mem_flatMap.mp hp
  obtain ⟨h1, h2⟩ := prs_mem hp
  exact ⟨(sgnT_mem h t ht).1 _ h1, (sgnT_mem h t ht).1 _ h2⟩
def rowP (ps : List (Nat × Nat)) (p : Nat × Nat) : D := .tuple [.str [p.1], .str [p.2], .int (cntP ps p)]
def countsD (ts : List (List Nat)) : D := .tuple ((sortP (uniq (allPrs ts))).map (rowP (allPrs ts)))
def F_counts : List D → Res D
  | [.tuple l] => match strsD l with
    | some ts => Res.need (sgnT ts ∧ ts.length ≤ 100) (.ok (countsD ts))
    | none => .stuck
  | _ => .stuck
theorem counts_ok {ts : List (List Nat)} (h : sgnT ts) (hl : ts.length ≤ 100) : F_counts [tsD ts] = .ok (countsD ts) := by
  show (match strsD (ts.map D.str) with
    | some ts => Res.need (sgnT ts ∧ ts.length ≤ 100) (Res.ok (countsD ts))
    | none => Res.stuck) = _
  rw [strsD_map]
  exact need_ok ⟨h, hl⟩ _
theorem sh_counts {ds : List D} (h : F_counts ds ≠ .stuck) : ∃ ts, ds = [tsD ts] ∧ sgnT ts ∧ ts.length ≤ 100 := by
  unfold F_counts at h
  split at h
  · split at h
    · rename_i e
      have := strsD_eq e
      subst this
      exact ⟨_, rfl, need_sh h⟩
    · exact absurd rfl h
  · exact absurd rfl h
theorem prs_range (t : List Nat) : (List.range (t.length - 1)).map (fun n => (t.getD n 0, t.getD (n + 1) 0)) = prs t := by
  apply List.ext_getElem?
  intro n
  rw [List.getElem?_map]
  by_cases h : n < t.length - 1
  · have h1 : t[n]? = some t[n] := List.getElem?_eq_getElem (by omega)
    have h2 : t[n + 1]? = some t[n + 1] := List.getElem?_eq_getElem (by omega)
    rw [prs_get h1 h2, List.getElem?_range h]
    show some (t.getD n 0, t.getD (n + 1) 0) = _
    rw [List.getD_eq_getElem?_getD, List.getD_eq_getElem?_getD, h1, h2]
    rfl
  · rw [List.getElem?_eq_none (by rw [List.length_range]; omega), List.getElem?_eq_none (by rw [prs_len]; omega)]
    rfl
theorem sorted_nil : cSorted [.dicK [] []] = .ok (.list []) := by
  have e0 : cSorted [.dicK [] []] = Res.need (shortS (.dicK [] []) = true ∧ shpAll 9 [] = true ∧ alk [] = true ∧ srt [] = true ∧ ([] : List D).length ≤ big) (.ok (.list (sortD []))) := rfl
  rw [e0, need_ok ⟨rfl, by unfold shpAll; rfl, rfl, rfl, by decide⟩]
  simp [sortD]
end Lw
namespace Lw
open PySem L2 DL
/-! ### firsts -/
def keyC (c : Nat) : Key := .inr (S [c])
theorem keyC_inj (a b : Nat) (h : keyC a = keyC b) : a = b := by
  unfold keyC at h
  have := S_inj (Sum.inr.inj h)
  simpa using this
theorem keysD_signs (l : List Nat) : keysD (signs l) = some (l.map keyC) := by
  induction l with
  | nil => rfl
  | cons c l ih =>
    show (match keyD (.str [c]), keysD (signs l) with
      | some k, some ks => some (k :: ks)
      | _, _ => none) = _
    rw [ih]
    rfl
def cntC (l : List Nat) (c : Nat) : Int := wsum (ones l) c
theorem table_signs {l : List Nat} (hl : l.length ≤ 100000) : F_table_of [.list (signs l)] = .ok (.dicK ((uniq l).map keyC) ((uniq l).map fun c => D.int (cntC l c))) := by
  have e1 := keysD_signs l
  have k1 : tabK (ones (l.map keyC)) = (uniq l).map keyC := by
    unfold tabK ones
    rw [List.map_map, List.map_map]
    exact uniq_map keyC_inj l
  have k2 : tabV (ones (l.map keyC)) = (uniq l).map fun c => D.int (cntC l c) := by
    unfold tabV
    rw [k1, List.map_map]
    apply List.map_congr_left
    intro p _
    show D.int (wsum (ones (l.map keyC)) (keyC p)) = _
    have e : ones (l.map keyC) = (ones l).map fun q => (keyC q.1, q.2) := by
      unfold ones
      rw [List.map_map, List.map_map]
      rfl
    rw [e, wsum_map keyC_inj]
    rfl
  unfold F_table_of
  simp only [e1]
  rw [need_ok (by unfold signs; rw [List.length_map]; exact hl), k1, k2]
theorem look_sign (us l : List Nat) (c : Nat) (h : c ∈ us) : lookR (.dicK (us.map keyC) (us.map fun q => D.int (cntC l q))) (.str [c]) = .ok (some (.int (cntC l c))) := by
  show Res.ok (valD (us.map keyC) (us.map fun q => D.int (cntC l q)) (keyC c)) = _
  congr 1
  induction us with
  | nil => cases h
  | cons u us ih =>
    by_cases e : u = c
    · subst e
      simp [valD]
    · have e2 : keyC u ≠ keyC c := fun z => e (keyC_inj _ _ z)
      have hp : c ∈ us := by
        rcases List.mem_cons.mp h with z | z
        · exact absurd z.symm e
        · exact z
      simp only [List.map_cons, valD, e2, if_false]
      exact ih hp
theorem sorted_keys {us : List Nat} {vs : List D} (h : ∀ c ∈ us, c < 0x110000) (hl : us.length ≤ 100000) : cSorted [.dicK (us.map keyC) vs] = .ok (.list (signs (sortN us))) := by
  have e : (us.map keyC).map keyDD = signs us := by
    unfold signs
    rw [List.map_map]
    apply List.map_congr_left
    intro c _
    simp [keyC, keyDD, S]
  have e0 : cSorted [.dicK (us.map keyC) vs] = Res.need (shortS (.dicK (us.map keyC) vs) = true ∧ shpAll 9 ((us.map keyC).map keyDD) = true ∧ alk ((us.map keyC).map keyDD) = true ∧ srt ((us.map keyC).map keyDD) = true ∧ ((us.map keyC).map keyDD).length ≤ big) (.ok (.list (sortD ((us.map keyC).map keyDD)))) := rfl
  rw [e0, e, need_ok ⟨rfl, shp_signs h, alk_signs us, srt_signs us, by unfold signs; rw [List.length_map]; unfold big; omega⟩, sortD_signs]
def firL (ts : List (List Nat)) : List Nat := ts.filterMap List.head?
def rowC (l : List Nat) (c : Nat) : D := .tuple [.str [c], .int (cntC l c)]
def firstsD (ts : List (List Nat)) : D := .tuple ((sortN (uniq (firL ts))).map (rowC (firL ts)))
def F_firsts : List D → Res D
  | [.tuple l] => match strsD l with
    | some ts => Res.need (sgnT ts ∧ ts.length ≤ 100) (.ok (firstsD ts))
    | none => .stuck
  | _ => .stuck
theorem firsts_ok {ts : List (List Nat)} (h : sgnT ts) (hl : ts.length ≤ 100) : F_firsts [tsD ts] = .ok (firstsD ts) := by
  show (match strsD (ts.map D.str) with
    | some ts => Res.need (sgnT ts ∧ ts.length ≤ 100) (Res.ok (firstsD ts))
    | none => Res.stuck) = _
  rw [strsD_map]
  exact need_ok ⟨h, hl⟩ _
theorem sh_firsts {ds : List D} (h : F_firsts ds ≠ .stuck) : ∃ ts, ds = [tsD ts] ∧ sgnT ts ∧ ts.length ≤ 100 := by
  unfold F_firsts at h
  split at h
  · split at h
    · rename_i e
      have := strsD_eq e
      subst this
      exact ⟨_, rfl, need_sh h⟩
    · exact absurd rfl h
  · exact absurd rfl h
end Lw
namespace Lw
open PySem L2 DL
def l_by_counts_1 : Dv → Res D :=
  (dLc [7, 8, 6] (dItems (dVar 2)) (hTup 3 (hCons (hName 7) (hCons (hName 8) (hCons (hName 6) hNil)))) bYes (d2 oMul (dVar 6) (dCall 4 F_far (dCons (dVar 0) (dCons (dVar 1) (dCons (dVar 7) (dCons (dVar 8) dNil)))))))
def l_by_counts_2 : Dv → Res D :=
  (dLc [5, 6] (dItems (dVar 3)) (hTup 2 (hCons (hName 5) (hCons (hName 6) hNil))) bYes (d2 oMul (dVar 6) (dCall 4 F_way (dCons (dVar 0) (dCons (dVar 1) (dCons (d2 oIx (dVar 1) (dC (.int 0))) (dCons (dVar 5) dNil)))))))
def x_by_counts : XS :=
  (xSeq (xSet 4 (fun δ => ((dCons l_by_counts_2 dNil) δ).bind cSum))
    (xRet (d2 oAdd (dVar 4) (fun δ => ((dCons l_by_counts_1 dNil) δ).bind cSum))))
def F_by_counts : List D → Res D := runX 4 9 x_by_counts
def l_joined_1 : Dv → Res D :=
  (dLc [3] (dItems (fun δ => ((dCons (dVar 2) dNil) δ).bind cSorted)) (hName 3) bYes (d2 oAdd (dVar 3) (dTup (dCons (dGetD (dVar 2) (dVar 3)) dNil))))
def b_joined_2 : XS :=
  (xWp [3] (xPut 2 (dSl (dVar 3) dNoP (dPt (fun δ => ((dC (.int 1)) δ).bind oNeg))) (d2 oAdd (dGet2 (dVar 2) (dSl (dVar 3) dNoP (dPt (fun δ => ((dC (.int 1)) δ).bind oNeg))) (dC (.int 0))) (d2 oIx (dVar 3) (fun δ => ((dC (.int 1)) δ).bind oNeg)))))
def x_joined : XS :=
  (xSeq (xNewT 2)
    (xSeq (xWp [3] (xFor (fun δ => ((d2 oAdd (dVar 0) (dVar 1)) δ).bind itemsF) (kName 3) b_joined_2))
    (xRet (fun δ => ((dCons l_joined_1 dNil) δ).bind cTuple))))
def F_joined : List D → Res D := runX 2 4 x_joined
def l_law_counts_1 : Dv → Res D :=
  (dLc [6] (fun δ => ((dCons (dC (.int 1)) (dCons (fun δ => ((dCons (dVar 5) dNil) δ).bind cLen) dNil)) δ).bind iR2) (hName 6) (dB (d2 oEq (dSl (dVar 5) (dPt (d2 oSub (dVar 6) (dC (.int 1)))) (dPt (d2 oAdd (dVar 6) (dC (.int 1))))) (d2 oAdd (dVar 2) (dVar 3)))) (dVar 6))
def b_law_counts_2 : XS :=
  (xWp [5] (xSet 4 (d2 oAdd (dVar 4) (fun δ => ((dCons l_law_counts_1 dNil) δ).bind cLen))))
def b_law_counts_3 : XS :=
  (xWp [3, 4, 5] (xSeq (xSet 4 (dC (.int 0)))
    (xSeq (xWp [5] (xForN 0 (kName 5) b_law_counts_2))
    (xIf (dB (d2 oGt (dVar 4) (dC (.int 0)))) (xApp 1 (dTup (dCons (dVar 2) (dCons (dVar 3) (dCons (dVar 4) dNil))))) xNext))))
def b_law_counts_4 : XS :=
  (xWp [2, 3, 4, 5] (xWp [3, 4, 5] (xFor (fun δ => ((dC (.str (Str.ofString "abcdefgh").cps.toList)) δ).bind itemsF) (kName 3) b_law_counts_3)))
def x_law_counts : XS :=
  (xSeq (xOwn 1 (dLst dNil))
    (xSeq (xWp [2, 3, 4, 5] (xFor (fun δ => ((dC (.str (Str.ofString "abcdefgh").cps.toList)) δ).bind itemsF) (kName 2) b_law_counts_4))
    (xRet (fun δ => ((dCons (dVar 1) dNil) δ).bind cTuple))))
def F_law_counts : List D → Res D := runX 1 7 x_law_counts
def l_law_firsts_1 : Dv → Res D :=
  (dLc [4] (dItems (dVar 0)) (hName 4) (dB (d2 oEq (dSl (dVar 4) dNoP (dPt (dC (.int 1)))) (dVar 2))) (dVar 4))
def b_law_firsts_2 : XS :=
  (xWp [2, 3] (xSeq (xSet 3 (fun δ => ((dCons l_law_firsts_1 dNil) δ).bind cLen))
    (xIf (dB (d2 oGt (dVar 3) (dC (.int 0)))) (xApp 1 (dTup (dCons (dVar 2) (dCons (dVar 3) dNil)))) xNext)))
def x_law_firsts : XS :=
  (xSeq (xOwn 1 (dLst dNil))
    (xSeq (xWp [2, 3] (xFor (fun δ => ((dC (.str (Str.ofString "abcdefgh").cps.toList)) δ).bind itemsF) (kName 2) b_law_firsts_2))
    (xRet (fun δ => ((dCons (dVar 1) dNil) δ).bind cTuple))))
def F_law_firsts : List D → Res D := runX 1 5 x_law_firsts
end Lw
namespace Lw
open PySem L2 DL
/-! ### rows of counts -/
abbrev mD (b f : Bool) : D := .tuple [.bool b, .bool f]
def rowI (r : (Nat × Nat) × Int) : D := .tuple [.str [r.1.1], .str [r.1.2], .int r.2]
def stI (r : Nat × Int) : D := .tuple [.str [r.1], .int r.2]
def rowsI (rs : List ((Nat × Nat) × Int)) : D := .tuple (rs.map rowI)
def stsI (rs : List (Nat × Int)) : D := .tuple (rs.map stI)
theorem way_ok {b f : Bool} {w : List Nat} {a c : Nat} (hw : w.length ≤ big) (ha : a ∈ w) (hc : c ∈ w) : F_way [mD b f, .str w, .str [a], .str [c]] = .ok (.int (wayZ b w a c)) := by
  show Res.need _ (if c ∈ w ∧ a ∈ w then _ else _) = _
  rw [need_ok hw, if_pos ⟨hc, ha⟩]
theorem fwd_le {w : List Nat} {a c : Nat} (ha : a ∈ w) : 0 ≤ fwd w a c ∧ fwd w a c < w.length := by
  have := idx_lt ha
  exact ⟨Int.emod_nonneg _ (by omega), Int.emod_lt_of_pos _ (by omega)⟩
theorem way_le {b : Bool} {w : List Nat} {a c : Nat} (ha : a ∈ w) : 0 ≤ wayZ b w a c ∧ wayZ b w a c ≤ w.length := by
  have := fwd_le (c := c) ha
  unfold wayZ
  split
  · split <;> omega
  · omega
theorem far_le {b f : Bool} {w : List Nat} {a c : Nat} (ha : a ∈ w) : 0 ≤ farZ b f w a c ∧ farZ b f w a c ≤ w.length := by
  have := way_le (b := b) (c := c) ha
  unfold farZ
  split <;> omega
theorem small_of {i : Int} {n : Nat} (h : 0 ≤ i ∧ i ≤ n) (hn : n ≤ 1000000) : smallI i := by unfold smallI; omega
theorem imm_ints (l : List Int) : immAll (l.map D.int) = true := by
  rw [immAll_iff]
  intro d hd
  obtain ⟨i, _, rfl⟩ := List.mem_map.mp hd
  rfl
theorem imm_map {α : Type} (g : α → D) (l : List α) (h : ∀ a, imm (g a) = true) : immAll (l.map g) = true := by
  rw [immAll_iff]
  intro d hd
  obtain ⟨i, _, rfl⟩ := List.mem_map.mp hd
  exact h i
theorem atI_0 {α : Type} (a : α) (l : List α) : atI (a :: l) 0 = some a := by
  rw [atI_nat' (by decide) (by simp)]
  rfl
theorem atI_1 {α : Type} (a b : α) (l : List α) : atI (a :: b :: l) 1 = some b := by
  rw [atI_nat' (by decide) (by simp; omega)]
  rfl
theorem atI_2 {α : Type} (a b c : α) (l : List α) : atI (a :: b :: c :: l) 2 = some c := by
  rw [atI_nat' (by decide) (by simp; omega)]
  rfl
theorem by_counts_ok {b f : Bool} {w : List Nat} {rs : List ((Nat × Nat) × Int)} {ss : List (Nat × Int)} (h0 : 0 < w.length) (hw : w.length ≤ 1000) (hr : ∀ r ∈ rs, r.1.1 ∈ w ∧ r.1.2 ∈ w) (hs : ∀ s ∈ ss, s.1 ∈ w) (l1 : rs.length ≤ 100000) (l2 : ss.length ≤ 100000) :
    F_by_counts [mD b f, .str w, rowsI rs, stsI ss] = .ok (.int ((ss.map fun s => s.2 * wayZ b w (w.getD 0 0) s.1).sum + (rs.map fun r => r.2 * farZ b f w r.1.1 r.1.2).sum)) := by
  obtain ⟨z, w', rfl⟩ : ∃ z w', w = z :: w' := by
    cases w with
    | nil => simp at h0
    | cons z w' => exact ⟨z, w', rfl⟩
  have hb : (z :: w').length ≤ big := by unfold big; omega
  have e2 : ∀ x5, l_by_counts_2 [some (mD b f), some (.str (z :: w')), some (rowsI rs), some (stsI ss), x5, none, none, none, none] = .ok (.list (ss.map fun s => .int (s.2 * wayZ b (z :: w') z s.1))) := fun x5 => by
    refine lc_map stI _ ss rfl (by unfold big; omega) fun s hs' => ?_
    have g := way_ok (b := b) (f := f) (a := z) (c := s.1) hb (by simp) (hs s hs')
    have sm := small_of (way_le (b := b) (w := z :: w') (a := z) (c := s.1) (by simp)) (by omega)
    have hl : w'.length + 1 ≤ 1000000 := by unfold big at hb; exact hb
    simp [Out.need, Res.need, oEq, oNe, oIn, oNi, DL.kName, DL.kTup, DL.kCons, DL.kNil, compOne, hName, hTup, hCons, hNil, big, noBox, stI, g, atI_0, sm, hl]
  have e1 : ∀ x5, l_by_counts_1 [some (mD b f), some (.str (z :: w')), some (rowsI rs), some (stsI ss), x5, none, none, none, none] = .ok (.list (rs.map fun r => .int (r.2 * farZ b f (z :: w') r.1.1 r.1.2))) := fun x5 => by
    refine lc_map rowI _ rs rfl (by unfold big; omega) fun s hs' => ?_
    obtain ⟨i1, i2⟩ := hr s hs'
    have g := far_ok (b := b) (f := f) hb i1 i2
    have sm := small_of (far_le (b := b) (f := f) (c := s.1.2) i1) (by omega)
    simp [Out.need, Res.need, oEq, oNe, oIn, oNi, DL.kName, DL.kTup, DL.kCons, DL.kNil, compOne, hName, hTup, hCons, hNil, big, noBox, rowI, g, sm]
  have s1 := sumR_map (ss.map fun s => s.2 * wayZ b (z :: w') z s.1)
  have s2 := sumR_map (rs.map fun r => r.2 * farZ b f (z :: w') r.1.1 r.1.2)
  rw [List.map_map] at s1 s2
  simp [Out.need, Res.need, oEq, oNe, oIn, oNi, DL.kName, DL.kTup, DL.kCons, DL.kNil, compOne, hName, hTup, hCons, hNil, big, noBox, F_by_counts, runX, x_by_counts, e1, e2]
  have s1' : sumR (ss.map fun s => D.int (s.2 * wayZ b (z :: w') z s.1)) = _ := s1
  have s2' : sumR (rs.map fun r => D.int (r.2 * farZ b f (z :: w') r.1.1 r.1.2)) = _ := s2
  simp [Out.need, Res.need, oEq, oNe, oIn, oNi, DL.kName, DL.kTup, DL.kCons, DL.kNil, compOne, hName, hTup, hCons, hNil, big, noBox, s1', s2', e1]
/-! ### joined -/
theorem cut_ft {α : Type} (l : List α) (a b : Nat) : cutL l (some (a : Int)) (some (b : Int)) = (l.drop a).take (b - a) := by
  unfold cutL
  rw [HT.sIx_nat, HT.sIx_nat]
  rcases Nat.le_total a l.length with h | h
  · rw [Nat.min_eq_left h]
    rcases Nat.le_total b l.length with h2 | h2
    · rw [Nat.min_eq_left h2]
    · rw [Nat.min_eq_right h2, List.take_of_length_le (by rw [List.length_drop]; omega), List.take_of_length_le (by rw [List.length_drop]; omega)]
  · rw [Nat.min_eq_right h, List.drop_of_length_le (Nat.le_refl _), List.drop_of_length_le h]
    simp
theorem cut_last {α : Type} (l : List α) (a : α) : cutL (l ++ [a]) none (some (-1)) = l := by
  unfold cutL
  rw [HT.sIx_none]
  have : HT.sIx (l ++ [a]).length (l ++ [a]).length (some (-1)) = l.length := by
    show (if (-1 : Int) < 0 then (-1 + ((l ++ [a]).length : Int)).toNat else min ((-1 : Int).toNat) (l ++ [a]).length) = _
    rw [if_pos (by decide), List.length_append]
    simp
    omega
  rw [this]
  simp
theorem at_last {α : Type} (l : List α) (a : α) : atI (l ++ [a]) (-1) = some a := by
  unfold atI ixN
  rw [if_neg (by decide), if_pos (by simp; omega)]
  have : (-1 + ((l ++ [a]).length : Int)).toNat = l.length := by simp; omega
  show (l ++ [a])[(-1 + ((l ++ [a]).length : Int)).toNat]? = some a
  rw [this]
  simp
def keyR (rs : List ((Nat × Nat) × Int)) : List (List Key × Int) := rs.map fun r => (keyP r.1, r.2)
theorem tabK_keyR (rs : List ((Nat × Nat) × Int)) : tabK (keyR rs) = (uniq (rs.map (·.1))).map keyP := by
  unfold tabK keyR
  rw [← uniq_map keyP_inj, List.map_map, List.map_map]
  rfl
theorem wsum_keyR (rs : List ((Nat × Nat) × Int)) (p : Nat × Nat) : wsum (keyR rs) (keyP p) = wsum rs p := wsum_map keyP_inj rs p
theorem look_keyR (rs : List ((Nat × Nat) × Int)) (p : Nat × Nat) : lookR (.dicT (tabK (keyR rs)) (tabV (keyR rs))) (pairD p) = .ok (valD (tabK (keyR rs)) (tabV (keyR rs)) (keyP p)) := rfl
theorem joined_ok {rs qs : List ((Nat × Nat) × Int)} (hr : sgnP (rs.map (·.1))) (hq : sgnP (qs.map (·.1))) (l1 : rs.length ≤ 10000) (l2 : qs.length ≤ 10000) :
    F_joined [rowsI rs, rowsI qs] = .ok (rowsI ((sortP (uniq ((rs ++ qs).map (·.1)))).map fun p => (p, wsum (rs ++ qs) p))) := by
  have im : immAll ((rs ++ qs).map rowI) = true := imm_map _ _ fun _ => rfl
  have lp : xLoop (kName 3) b_joined_2 ((rs ++ qs).map rowI) [some (.fz (rowsI rs)), some (.fz (rowsI qs)), some (.ow (.dicT [] [])), none] = .nx [some (.fz (rowsI rs)), some (.fz (rowsI qs)), some (.ow (.dicT (tabK (keyR (rs ++ qs))) (tabV (keyR (rs ++ qs))))), none] := by
    refine loop_st rowI (fun p => [some (.fz (rowsI rs)), some (.fz (rowsI qs)), some (.ow (.dicT (tabK (keyR p)) (tabV (keyR p)))), none]) (rs ++ qs) fun p a r e => ?_
    have ek : keyR (p ++ [a]) = keyR p ++ [(keyP a.1, a.2)] := by unfold keyR; rw [List.map_append]; rfl
    rw [ek, tabK_snoc, tabV_snoc]
    have c1 : cutL [D.str [a.1.1], .str [a.1.2], .int a.2] none (some (-1)) = [.str [a.1.1], .str [a.1.2]] := cut_last [D.str [a.1.1], .str [a.1.2]] (.int a.2)
    have c2 : atI [D.str [a.1.1], .str [a.1.2], .int a.2] (-1) = some (.int a.2) := at_last [D.str [a.1.1], .str [a.1.2]] (.int a.2)
    have tg := tab_get (keyR p) (keyP a.1)
    have lk := look_keyR p a.1
    unfold pairD at lk
    have pu : putR (.dicT (tabK (keyR p)) (tabV (keyR p))) (.tuple [.str [a.1.1], .str [a.1.2]]) (.int (wsum (keyR p) (keyP a.1) + a.2)) = some (.dicT (putKs (tabK (keyR p)) (keyP a.1)) (putVs (tabK (keyR p)) (tabV (keyR p)) (keyP a.1) (.int (wsum (keyR p) (keyP a.1) + a.2)))) := rfl
    have lz : lenD (.dicT (tabK (keyR p)) (tabV (keyR p))) < 1000000 := by
      show (tabK (keyR p)).length < _
      have h1 := uniq_len ((keyR p).map (·.1))
      have h2 : p.length ≤ (rs ++ qs).length := by rw [e]; simp
      unfold keyR at h1
      rw [List.length_map, List.length_map] at h1
      unfold tabK keyR
      rw [List.length_append] at h2
      omega
    simp [Out.need, Res.need, oEq, oNe, oIn, oNi, DL.kName, DL.kTup, DL.kCons, DL.kNil, compOne, hName, hTup, hCons, hNil, big, noBox, b_joined_2, rowI, c1, c2, asDic, lk, tg, pu, lz]
  have su : sgnP (uniq ((rs ++ qs).map (·.1))) := fun p hp => by
    have := mem_uniq.mp hp
    rw [List.map_append, List.mem_append] at this
    exact this.elim (hr p) (hq p)
  have ul := uniq_len ((rs ++ qs).map (·.1))
  rw [List.length_map, List.length_append] at ul
  have so := sorted_pairs (vs := tabV (keyR (rs ++ qs))) su (by omega)
  have lc : l_joined_1 [some (rowsI rs), some (rowsI qs), some (.dicT (tabK (keyR (rs ++ qs))) (tabV (keyR (rs ++ qs)))), none] = .ok (.list ((sortP (uniq ((rs ++ qs).map (·.1)))).map fun p => rowI (p, wsum (rs ++ qs) p))) := by
    refine lc_map pairD _ _ ?_ ?_ fun p hp => ?_
    · rw [← tabK_keyR] at so
      simp [so]
    · unfold sortP
      rw [List.length_mergeSort]
      unfold big
      omega
    · have hpu : p ∈ uniq ((rs ++ qs).map (·.1)) := List.mem_mergeSort.mp hp
      have lo : lookR (.dicT (tabK (keyR (rs ++ qs))) (tabV (keyR (rs ++ qs)))) (pairD p) = .ok (some (.int (wsum (rs ++ qs) p))) := by
        rw [look_keyR]
        unfold tabV
        rw [valD_map (fun k => D.int (wsum (keyR (rs ++ qs)) k)), if_pos (by rw [tabK_keyR]; exact List.mem_map_of_mem (f := keyP) hpu), wsum_keyR]
      unfold pairD at lo ⊢
      simp [Out.need, Res.need, oEq, oNe, oIn, oNi, DL.kName, DL.kTup, DL.kCons, DL.kNil, compOne, hName, hTup, hCons, hNil, big, noBox, lo, ofV, rowI]
  have im2 : immAll (rs.map rowI ++ qs.map rowI) = true := by rw [← List.map_append]; exact im
  have lb : rs.length + qs.length ≤ 1000000 := by omega
  rw [List.map_append] at lp
  unfold rowsI at lp lc ⊢
  rw [List.map_map]
  simp [Out.need, Res.need, oEq, oNe, oIn, oNi, DL.kName, DL.kTup, DL.kCons, DL.kNil, compOne, hName, hTup, hCons, hNil, big, noBox, F_joined, runX, x_joined, im2, lb, lp, lc, tab_small]
/-! ### counts, counted plainly -/
def L8 : List Nat := [97, 98, 99, 100, 101, 102, 103, 104]
theorem lit8 : (Str.ofString "abcdefgh").cps.toList = L8 := by decide +kernel
def cnt (ts : List (List Nat)) (p : Nat × Nat) : Nat := (allPrs ts).count p
theorem wsum_ones {κ : Type} [DecidableEq κ] [BEq κ] [LawfulBEq κ] (js : List κ) (k : κ) : wsum (ones js) k = (js.count k : Int) := by
  induction js with
  | nil => rfl
  | cons j js ih =>
    have e : wsum (ones (j :: js)) k = (if j = k then 1 else 0) + wsum (ones js) k := by
      unfold wsum ones
      rw [List.map_cons, List.filter_cons]
      by_cases h : j = k <;> simp [h]
    rw [e, ih, List.count_cons]
    by_cases h : j = k
    · simp [h]; omega
    · simp [h]
theorem cntP_eq (ts : List (List Nat)) (p : Nat × Nat) : cntP (allPrs ts) p = (cnt ts p : Int) := wsum_ones _ _
theorem cut_pair {t : List Nat} {n : Nat} (h : n + 1 < t.length) : cutL t (some (1 + (n : Int) - 1)) (some (1 + (n : Int) + 1)) = [t.getD n 0, t.getD (n + 1) 0] := by
  have e1 : 1 + (n : Int) - 1 = (n : Nat) := by omega
  have e2 : 1 + (n : Int) + 1 = ((n + 2 : Nat) : Int) := by omega
  rw [e1, e2, cut_ft]
  have e3 : n + 2 - n = 2 := by omega
  rw [e3, List.drop_eq_getElem_cons (l := t) (i := n) (by omega), List.drop_eq_getElem_cons (l := t) (i := n + 1) (by omega)]
  have g1 : t.getD n 0 = t[n] := by simp [List.getD_eq_getElem?_getD, List.getElem?_eq_getElem (show n < t.length by omega)]
  have g2 : t.getD (n + 1) 0 = t[n + 1] := by simp [List.getD_eq_getElem?_getD, List.getElem?_eq_getElem h]
  rw [g1, g2]
  rfl
theorem count_range (t : List Nat) (p : Nat × Nat) : ((List.range (t.length - 1)).filter fun n => decide (t.getD n 0 = p.1 ∧ t.getD (n + 1) 0 = p.2)).length = (prs t).count p := by
  rw [← prs_range t, List.count_eq_countP, List.countP_map, ← List.countP_eq_length_filter]
  congr 1
  funext n
  rw [Bool.eq_iff_iff]
  simp [Prod.ext_iff]
theorem lawc_1 {ts t : List Nat} {x0 x1 x4 : Option D} {a c : Nat} (ht : t.length ≤ 1000) : ∃ l, l_law_counts_1 [x0, x1, some (.str [a]), some (.str [c]), x4, some (.str t), none] = .ok (.list l) ∧ l.length = (prs t).count (a, c) := by
  refine ⟨_, lc_filter (fun (n : Nat) => D.int (1 + (n : Int))) (fun n => decide (t.getD n 0 = a ∧ t.getD (n + 1) 0 = c)) (fun (n : Nat) => D.int (1 + (n : Int))) (List.range (t.length - 1)) ?_ ?_ fun n hn => ?_, ?_⟩
  · have hb : t.length ≤ 1000000 := by omega
    simp [Out.need, Res.need, oEq, oNe, oIn, oNi, DL.kName, DL.kTup, DL.kCons, DL.kNil, compOne, hName, hTup, hCons, hNil, big, noBox, hb]
    rfl
  · rw [List.length_range]
    unfold big
    omega
  · have hn2 : n + 1 < t.length := by have := List.mem_range.mp hn; omega
    have hb : t.length ≤ 1000000 := by omega
    have cp := cut_pair hn2
    generalize t.getD n 0 = x at cp
    generalize t.getD (n + 1) 0 = y at cp
    by_cases h : x = a ∧ y = c
    · simp [Out.need, Res.need, oEq, oNe, oIn, oNi, DL.kName, DL.kTup, DL.kCons, DL.kNil, compOne, hName, hTup, hCons, hNil, big, noBox, hb, cp, h]
    · simp [Out.need, Res.need, oEq, oNe, oIn, oNi, DL.kName, DL.kTup, DL.kCons, DL.kNil, compOne, hName, hTup, hCons, hNil, big, noBox, hb, cp, h]
  · rw [List.length_map]
    exact count_range t (a, c)
theorem cnt_snoc (p : List (List Nat)) (t : List Nat) (q : Nat × Nat) : cnt (p ++ [t]) q = cnt p q + (prs t).count q := by
  unfold cnt allPrs
  rw [List.flatMap_append, List.count_append]
  simp
theorem lawc_2 {ts : List (List Nat)} {R : D} {a c : Nat} (ht : ∀ t ∈ ts, t.length ≤ 1000) : xLoop (kName 5) b_law_counts_2 (ts.map D.str) [some (.fz (tsD ts)), some (.ow R), some (.fz (.str [a])), some (.fz (.str [c])), some (.fz (.int 0)), none, none] = .nx [some (.fz (tsD ts)), some (.ow R), some (.fz (.str [a])), some (.fz (.str [c])), some (.fz (.int (cnt ts (a, c) : Nat))), none, none] := by
  refine loop_st D.str (fun p => [some (.fz (tsD ts)), some (.ow R), some (.fz (.str [a])), some (.fz (.str [c])), some (.fz (.int (cnt p (a, c) : Nat))), none, none]) ts fun p t r e => ?_
  obtain ⟨l, h1, h2⟩ := lawc_1 (ts := t) (t := t) (x0 := some (tsD ts)) (x1 := some R) (x4 := some (.int (cnt p (a, c) : Nat))) (a := a) (c := c) (ht t (by rw [e]; simp))
  rw [cnt_snoc, ← h2]
  simp [Out.need, Res.need, oEq, oNe, oIn, oNi, DL.kName, DL.kTup, DL.kCons, DL.kNil, compOne, hName, hTup, hCons, hNil, big, noBox, b_law_counts_2, h1]
def rows8 (ts : List (List Nat)) (a : Nat) (l : List Nat) : List D := (l.filter fun c => decide (0 < cnt ts (a, c))).map fun c => rowI ((a, c), cnt ts (a, c))
theorem rows8_len (ts : List (List Nat)) (a : Nat) (l : List Nat) : (rows8 ts a l).length ≤ l.length := by
  unfold rows8
  rw [List.length_map]
  exact List.length_filter_le _ _
theorem lawc_3 {ts : List (List Nat)} {R : List D} {a : Nat} (ht : ∀ t ∈ ts, t.length ≤ 1000) (hR : immAll R = true) (hl : R.length ≤ 1000) : xLoop (kName 3) b_law_counts_3 (L8.map fun c => .str [c]) [some (.fz (tsD ts)), some (.ow (.list R)), some (.fz (.str [a])), none, none, none, none] = .nx [some (.fz (tsD ts)), some (.ow (.list (R ++ rows8 ts a L8))), some (.fz (.str [a])), none, none, none, none] := by
  have := loop_st (k := kName 3) (b := b_law_counts_3) (fun c => D.str [c]) (fun p => [some (.fz (tsD ts)), some (.ow (.list (R ++ rows8 ts a p))), some (.fz (.str [a])), none, none, none, none]) L8 fun p c r e => ?_
  · have e0 : R ++ rows8 ts a [] = R := by simp [rows8]
    simp only [e0] at this
    exact this
  · have lw := lawc_2 (R := .list (R ++ rows8 ts a p)) (a := a) (c := c) ht
    have im : immAll (R ++ rows8 ts a p) = true := immAll_app hR (imm_map _ _ fun _ => rfl)
    have hll : (R ++ rows8 ts a p).length < 1000000 := by
      rw [List.length_append]
      have := rows8_len ts a p
      have h8 : p.length ≤ L8.length := by rw [e]; simp
      have : L8.length = 8 := rfl
      omega
    have en : rows8 ts a (p ++ [c]) = rows8 ts a p ++ (if 0 < cnt ts (a, c) then [rowI ((a, c), cnt ts (a, c))] else []) := by
      unfold rows8
      rw [List.filter_append, List.map_append]
      by_cases h : 0 < cnt ts (a, c) <;> simp [h]
    rw [en, ← List.append_assoc]
    generalize R ++ rows8 ts a p = R2 at lw im hll
    have it : items (tsD ts) = .ok (ts.map D.str) := rfl
    have hll' : R2.length < 1000000 := hll
    by_cases h : 0 < cnt ts (a, c)
    · have h' : (0 : Int) < (cnt ts (a, c) : Int) := by omega
      simp [Out.need, Res.need, oEq, oNe, oIn, oNi, DL.kName, DL.kTup, DL.kCons, DL.kNil, compOne, hName, hTup, hCons, hNil, big, noBox, b_law_counts_3, it, lw, h, h', im, hll', rowI]
    · have h' : ¬ (0 : Int) < (cnt ts (a, c) : Int) := by omega
      simp [Out.need, Res.need, oEq, oNe, oIn, oNi, DL.kName, DL.kTup, DL.kCons, DL.kNil, compOne, hName, hTup, hCons, hNil, big, noBox, b_law_counts_3, it, lw, h, h', im, hll', rowI]
theorem lawc_4 {ts : List (List Nat)} (ht : ∀ t ∈ ts, t.length ≤ 1000) : F_law_counts [tsD ts] = .ok (.tuple (L8.flatMap fun a => rows8 ts a L8)) := by
  have imf : ∀ p : List Nat, immAll (p.flatMap fun a => rows8 ts a L8) = true := fun p => by
    rw [immAll_iff]
    intro d hd
    obtain ⟨a, _, hd⟩ := List.mem_flatMap.mp hd
    obtain ⟨i, _, rfl⟩ := List.mem_map.mp hd
    rfl
  have lenf : ∀ p : List Nat, (p.flatMap fun a => rows8 ts a L8).length ≤ 8 * p.length := fun p => by
    induction p with
    | nil => simp
    | cons a p ih =>
      have := rows8_len ts a L8
      have e8 : L8.length = 8 := rfl
      rw [List.flatMap_cons, List.length_append, List.length_cons]
      omega
  have := loop_st (k := kName 2) (b := b_law_counts_4) (fun c => D.str [c]) (fun p => [some (.fz (tsD ts)), some (.ow (.list (p.flatMap fun a => rows8 ts a L8))), none, none, none, none, none]) L8 fun p a r e => ?_
  · have e0 : (([] : List Nat).flatMap fun a => rows8 ts a L8) = [] := rfl
    simp only [e0] at this
    simp [Out.need, Res.need, oEq, oNe, oIn, oNi, DL.kName, DL.kTup, DL.kCons, DL.kNil, compOne, hName, hTup, hCons, hNil, big, noBox, F_law_counts, runX, x_law_counts, lit8, this]
  · have hl : (p.flatMap fun a => rows8 ts a L8).length ≤ 1000 := by
      have h1 := lenf p
      have h8 : p.length ≤ L8.length := by rw [e]; simp
      have : L8.length = 8 := rfl
      omega
    have lw := lawc_3 (a := a) ht (imf p) hl
    have en : ((p ++ [a]).flatMap fun a => rows8 ts a L8) = (p.flatMap fun a => rows8 ts a L8) ++ rows8 ts a L8 := by simp
    rw [en]
    generalize (p.flatMap fun a => rows8 ts a L8) = R2 at lw
    simp [Out.need, Res.need, oEq, oNe, oIn, oNi, DL.kName, DL.kTup, DL.kCons, DL.kNil, compOne, hName, hTup, hCons, hNil, big, noBox, b_law_counts_4, lit8, lw]
/-- letters of the eight -/
def in8 (ts : List (List Nat)) : Prop := ∀ t ∈ ts, (∀ c ∈ t, c ∈ L8) ∧ t.length ≤ 1000
def P64 : List (Nat × Nat) := L8.flatMap fun a => L8.map fun c => (a, c)
theorem mem_P64 (p : Nat × Nat) : p ∈ P64 ↔ p.1 ∈ L8 ∧ p.2 ∈ L8 := by
  unfold P64
  simp only [List.mem_flatMap, List.mem_map]
  constructor
  · rintro ⟨a, ha, c, hc, rfl⟩
    exact ⟨ha, hc⟩
  · rintro ⟨h1, h2⟩
    exact ⟨p.1, h1, p.2, h2, rfl⟩
theorem cnt_pos {ts : List (List Nat)} {p : Nat × Nat} : 0 < cnt ts p ↔ p ∈ allPrs ts := List.count_pos_iff
theorem counts_flat {ts : List (List Nat)} (h : in8 ts) : sortP (uniq (allPrs ts)) = P64.filter fun p => decide (0 < cnt ts p) := by
  refine sortP_eq (nodup_uniq _) ?_ ?_ fun p => ?_
  · have : P64.Pairwise fun p q => leP p q = true := by decide +kernel
    exact this.filter _
  · have : P64.Nodup := by decide +kernel
    exact this.filter _
  · rw [mem_uniq, List.mem_filter, mem_P64, decide_eq_true_iff, cnt_pos]
    constructor
    · intro hp
      obtain ⟨t, ht, hp2⟩ := List.mem_flatMap.mp hp
      have := prs_mem hp2
      exact ⟨⟨(h t ht).1 _ this.1, (h t ht).1 _ this.2⟩, hp⟩
    · exact fun hp => hp.2
theorem lawc_ok {ts : List (List Nat)} (h : in8 ts) : F_law_counts [tsD ts] = .ok (countsD ts) := by
  rw [lawc_4 fun t ht => (h t ht).2]
  unfold countsD
  rw [counts_flat h]
  congr 2
  have e : rowP (allPrs ts) = fun p => rowI (p, (cnt ts p : Int)) := by
    funext p
    unfold rowP rowI
    rw [cntP_eq]
  rw [e]
  unfold P64
  rw [List.filter_flatMap, List.map_flatMap]
  congr 1
  funext a
  unfold rows8
  rw [List.filter_map, List.map_map]
  rfl
/-! ### firsts, counted plainly -/
def cnt1 (ts : List (List Nat)) (c : Nat) : Nat := (firL ts).count c
theorem cntC_eq (ts : List (List Nat)) (c : Nat) : cntC (firL ts) c = (cnt1 ts c : Int) := wsum_ones _ _
theorem cnt1_filter (ts : List (List Nat)) (c : Nat) : (ts.filter fun t => decide (t.take 1 = [c])).length = cnt1 ts c := by
  unfold cnt1 firL
  induction ts with
  | nil => rfl
  | cons t ts ih =>
    cases t with
    | nil =>
      rw [List.filter_cons_of_neg (by simp)]
      exact ih
    | cons x t =>
      by_cases hx : x = c
      · simp [hx]
        exact ih
      · simp [hx]
        exact ih
theorem lawf_1 {ts : List (List Nat)} {x1 x3 : Option D} {c : Nat} (ht : ∀ t ∈ ts, t.length ≤ 1000) (hl : ts.length ≤ 1000) : l_law_firsts_1 [some (tsD ts), x1, some (.str [c]), x3, none] = .ok (.list ((ts.filter fun t => decide (t.take 1 = [c])).map D.str)) := by
  refine lc_filter D.str (fun t => decide (t.take 1 = [c])) D.str ts rfl (by unfold big; omega) fun t h => ?_
  have hb : t.length ≤ 1000000 := by have := ht t h; omega
  have c1 : cutL t none (some 1) = t.take 1 := cut_to t 1
  by_cases q : t.take 1 = [c]
  · simp [Out.need, Res.need, oEq, oNe, oIn, oNi, DL.kName, DL.kTup, DL.kCons, DL.kNil, compOne, hName, hTup, hCons, hNil, big, noBox, hb, c1, q]
  · simp [Out.need, Res.need, oEq, oNe, oIn, oNi, DL.kName, DL.kTup, DL.kCons, DL.kNil, compOne, hName, hTup, hCons, hNil, big, noBox, hb, c1, q]
def rows1 (ts : List (List Nat)) (l : List Nat) : List D := (l.filter fun c => decide (0 < cnt1 ts c)).map fun c => stI (c, cnt1 ts c)
theorem lawf_4 {ts : List (List Nat)} (ht : ∀ t ∈ ts, t.length ≤ 1000) (hl : ts.length ≤ 1000) : F_law_firsts [tsD ts] = .ok (.tuple (rows1 ts L8)) := by
  have := loop_st (k := kName 2) (b := b_law_firsts_2) (fun c => D.str [c]) (fun p => [some (.fz (tsD ts)), some (.ow (.list (rows1 ts p))), none, none, none]) L8 fun p c r e => ?_
  · have e0 : rows1 ts [] = [] := rfl
    simp only [e0] at this
    simp [Out.need, Res.need, oEq, oNe, oIn, oNi, DL.kName, DL.kTup, DL.kCons, DL.kNil, compOne, hName, hTup, hCons, hNil, big, noBox, F_law_firsts, runX, x_law_firsts, lit8, this]
  · have l1 := lawf_1 (x1 := some (.list (rows1 ts p))) (x3 := none) (c := c) ht hl
    have l2 := cnt1_filter ts c
    have im : immAll (rows1 ts p) = true := imm_map _ _ fun _ => rfl
    have hll : (rows1 ts p).length < 1000000 := by
      unfold rows1
      rw [List.length_map]
      have := List.length_filter_le (fun c => decide (0 < cnt1 ts c)) p
      have h8 : p.length ≤ L8.length := by rw [e]; simp
      have : L8.length = 8 := rfl
      omega
    have en : rows1 ts (p ++ [c]) = rows1 ts p ++ (if 0 < cnt1 ts c then [stI (c, cnt1 ts c)] else []) := by
      unfold rows1
      rw [List.filter_append, List.map_append]
      by_cases h : 0 < cnt1 ts c <;> simp [h]
    rw [en]
    generalize rows1 ts p = R2 at l1 im hll
    generalize (ts.filter fun t => decide (t.take 1 = [c])) = F at l1 l2
    by_cases h : 0 < cnt1 ts c
    · have h' : (0 : Int) < (cnt1 ts c : Int) := by omega
      simp [Out.need, Res.need, oEq, oNe, oIn, oNi, DL.kName, DL.kTup, DL.kCons, DL.kNil, compOne, hName, hTup, hCons, hNil, big, noBox, b_law_firsts_2, l1, l2, h, h', im, hll, stI]
    · have h' : ¬ (0 : Int) < (cnt1 ts c : Int) := by omega
      simp [Out.need, Res.need, oEq, oNe, oIn, oNi, DL.kName, DL.kTup, DL.kCons, DL.kNil, compOne, hName, hTup, hCons, hNil, big, noBox, b_law_firsts_2, l1, l2, h, h', im, hll, stI]
theorem sortN_eq2 {ps qs : List Nat} (hn : ps.Nodup) (hq : qs.Pairwise fun p q => p ≤ q) (hqn : qs.Nodup) (hm : ∀ p, p ∈ ps ↔ p ∈ qs) : sortN ps = qs := by
  have hp : ps.Perm qs := (List.perm_ext_iff_of_nodup hn hqn).mpr hm
  have h1 := sortN_eq.mpr hp
  rw [h1]
  unfold sortN
  refine List.mergeSort_of_pairwise ?_
  exact hq.imp fun h => by simpa using h
theorem lawf_ok {ts : List (List Nat)} (h : in8 ts) (hl : ts.length ≤ 1000) : F_law_firsts [tsD ts] = .ok (firstsD ts) := by
  rw [lawf_4 (fun t ht => (h t ht).2) hl]
  unfold firstsD
  have e0 : sortN (uniq (firL ts)) = L8.filter fun c => decide (0 < cnt1 ts c) := by
    refine sortN_eq2 (nodup_uniq _) ?_ ?_ fun p => ?_
    · have : L8.Pairwise fun p q => p ≤ q := by decide +kernel
      exact this.filter _
    · have : L8.Nodup := by decide +kernel
      exact this.filter _
    · rw [mem_uniq, List.mem_filter, decide_eq_true_iff]
      unfold cnt1
      rw [List.count_pos_iff]
      constructor
      · intro hp
        obtain ⟨t, ht, hh⟩ := List.mem_filterMap.mp hp
        exact ⟨(h t ht).1 _ (List.mem_of_mem_head? hh), hp⟩
      · exact fun hp => hp.2
  rw [e0]
  unfold rows1
  congr 3
  funext c
  unfold rowC stI
  rw [cntC_eq]
end Lw
namespace Lw
open PySem L2 DL
/-! ### counts tell what texts need -/
theorem sum_pick {κ : Type} [BEq κ] [LawfulBEq κ] (g : κ → Int) (j : κ) : ∀ us : List κ, us.Nodup → j ∈ us → (us.map fun k => (if j == k then 1 else 0) * g k).sum = g j
  | [], _, h => by cases h
  | u :: us, hn, h => by
    obtain ⟨h1, h2⟩ := List.nodup_cons.mp hn
    rw [List.map_cons, List.sum_cons]
    by_cases e : j = u
    · subst e
      have z : ∀ vs : List κ, j ∉ vs → (vs.map fun k => (if j == k then 1 else 0) * g k).sum = 0 := by
        intro vs
        induction vs with
        | nil => intro _; rfl
        | cons v vs ih =>
          intro hv
          have hv1 : j ≠ v := fun q => hv (by rw [q]; exact List.mem_cons_self)
          have hv2 := ih fun q => hv (List.mem_cons_of_mem _ q)
          rw [List.map_cons, List.sum_cons, hv2]
          simp [hv1]
      rw [z us h1]
      simp
    · have := sum_pick g j us h2 (by
        rcases List.mem_cons.mp h with q | q
        · exact absurd q e
        · exact q)
      rw [this]
      simp [e]
theorem sum_count {κ : Type} [BEq κ] [LawfulBEq κ] (g : κ → Int) (us : List κ) (hn : us.Nodup) : ∀ js : List κ, (∀ j ∈ js, j ∈ us) → (us.map fun k => (js.count k : Int) * g k).sum = (js.map g).sum
  | [], _ => by
    have : ∀ vs : List κ, (vs.map fun k => ((([] : List κ).count k : Nat) : Int) * g k).sum = 0 := by
      intro vs
      induction vs with
      | nil => rfl
      | cons v vs ih => rw [List.map_cons, List.sum_cons, ih]; simp
    rw [this]
    rfl
  | j :: js, h => by
    rw [List.map_cons, List.sum_cons, ← sum_count g us hn js fun k hk => h k (List.mem_cons_of_mem _ hk), ← sum_pick g j us hn (h j List.mem_cons_self)]
    have : ∀ vs : List κ, (vs.map fun k => ((j :: js).count k : Int) * g k).sum = (vs.map fun k => (if j == k then 1 else 0) * g k).sum + (vs.map fun k => (js.count k : Int) * g k).sum := by
      intro vs
      induction vs with
      | nil => rfl
      | cons v vs ih =>
        simp only [List.map_cons, List.sum_cons]
        rw [ih, List.count_cons]
        by_cases e : j = v
        · simp [e, Int.add_mul]
          omega
        · simp [e]
          omega
    exact this us
theorem farL_sum (b f : Bool) (w : List Nat) : ∀ (a : Nat) (t : List Nat), (farL b f w a t).sum = ((prs (a :: t)).map fun p => farZ b f w p.1 p.2).sum
  | _, [] => rfl
  | a, c :: t => by
    show farZ b f w a c + (farL b f w c t).sum = _
    rw [farL_sum b f w c t]
    rfl
theorem pulses_cnt (b f : Bool) (w : List Nat) (ts : List (List Nat)) : pulsesZ b f w ts = ((firL ts).map fun c => wayZ b w (w.getD 0 0) c).sum + ((allPrs ts).map fun p => farZ b f w p.1 p.2).sum := by
  unfold pulsesZ firL allPrs
  induction ts with
  | nil => rfl
  | cons t ts ih =>
    rw [List.map_cons, List.sum_cons, ih, List.flatMap_cons, List.map_append, List.sum_append]
    cases t with
    | nil =>
      show 0 + _ = _
      rw [Int.zero_add]
      show _ = _ + (0 + _)
      rw [Int.zero_add]
      rfl
    | cons c t =>
      have e : (stepsL b f w (c :: t)).sum = wayZ b w (w.getD 0 0) c + ((prs (c :: t)).map fun p => farZ b f w p.1 p.2).sum := by
        show wayZ b w (w.getD 0 0) c + (farL b f w c t).sum = _
        rw [farL_sum]
      have e2 : ((c :: t) :: ts).filterMap List.head? = c :: ts.filterMap List.head? := rfl
      rw [e, e2, List.map_cons, List.sum_cons]
      omega
def cRows (ts : List (List Nat)) : List ((Nat × Nat) × Int) := (sortP (uniq (allPrs ts))).map fun p => (p, (cnt ts p : Int))
def fRows (ts : List (List Nat)) : List (Nat × Int) := (sortN (uniq (firL ts))).map fun c => (c, (cnt1 ts c : Int))
theorem countsD_rows (ts : List (List Nat)) : countsD ts = rowsI (cRows ts) := by
  unfold countsD rowsI cRows
  rw [List.map_map]
  congr 2
  funext p
  unfold rowP
  rw [cntP_eq]
  rfl
theorem firstsD_rows (ts : List (List Nat)) : firstsD ts = stsI (fRows ts) := by
  unfold firstsD stsI fRows
  rw [List.map_map]
  congr 2
  funext p
  unfold rowC
  rw [cntC_eq]
  rfl
theorem nodup_sortP {ps : List (Nat × Nat)} (h : ps.Nodup) : (sortP ps).Nodup := ((List.mergeSort_perm ps leP).nodup_iff).mpr h
theorem nodup_sortN {ps : List Nat} (h : ps.Nodup) : (sortN ps).Nodup := ((sortN_perm ps).nodup_iff).mpr h
theorem mem_sortP {ps : List (Nat × Nat)} {p : Nat × Nat} : p ∈ sortP ps ↔ p ∈ ps := (List.mergeSort_perm ps leP).mem_iff
theorem mem_sortN {ps : List Nat} {p : Nat} : p ∈ sortN ps ↔ p ∈ ps := (sortN_perm ps).mem_iff
theorem cRows_sum (g : Nat × Nat → Int) (ts : List (List Nat)) : ((cRows ts).map fun r => r.2 * g r.1).sum = ((allPrs ts).map g).sum := by
  unfold cRows
  rw [List.map_map]
  exact sum_count g _ (nodup_sortP (nodup_uniq _)) (allPrs ts) fun p hp => mem_sortP.mpr (mem_uniq.mpr hp)
theorem fRows_sum (g : Nat → Int) (ts : List (List Nat)) : ((fRows ts).map fun r => r.2 * g r.1).sum = ((firL ts).map g).sum := by
  unfold fRows
  rw [List.map_map]
  exact sum_count g _ (nodup_sortN (nodup_uniq _)) (firL ts) fun p hp => mem_sortN.mpr (mem_uniq.mpr hp)
/-- texts of letters of w -/
structure Tx (w : List Nat) (ts : List (List Nat)) : Prop where
  i : ∀ t ∈ ts, (∀ c ∈ t, c ∈ w) ∧ t.length ≤ 30
  n : ts.length ≤ 30
theorem Tx.prs {w : List Nat} {ts : List (List Nat)} (h : Tx w ts) {p : Nat × Nat} (hp : p ∈ allPrs ts) : p.1 ∈ w ∧ p.2 ∈ w := by
  obtain ⟨t, ht, hp2⟩ := List.mem_flatMap.mp hp
  have := prs_mem hp2
  exact ⟨(h.i t ht).1 _ this.1, (h.i t ht).1 _ this.2⟩
theorem Tx.fir {w : List Nat} {ts : List (List Nat)} (h : Tx w ts) {c : Nat} (hc : c ∈ firL ts) : c ∈ w := by
  obtain ⟨t, ht, hh⟩ := List.mem_filterMap.mp hc
  exact (h.i t ht).1 _ (List.mem_of_mem_head? hh)
theorem Tx.pn {w : List Nat} {ts : List (List Nat)} (h : Tx w ts) : (allPrs ts).length ≤ 1000 := by
  have key : ∀ us : List (List Nat), (∀ t ∈ us, t.length ≤ 30) → (allPrs us).length ≤ 30 * us.length := by
    intro us
    induction us with
    | nil => intro _; exact Nat.le_refl _
    | cons t us ih =>
      intro hu
      have h1 := ih fun v hv => hu v (List.mem_cons_of_mem _ hv)
      have h2 := hu t List.mem_cons_self
      unfold allPrs at h1 ⊢
      rw [List.flatMap_cons, List.length_append, List.length_cons, prs_len]
      omega
  have := key ts fun t ht => (h.i t ht).2
  have := h.n
  omega
theorem Tx.fn {w : List Nat} {ts : List (List Nat)} (h : Tx w ts) : (firL ts).length ≤ 1000 := by
  have : (firL ts).length ≤ ts.length := List.length_filterMap_le _ _
  have := h.n
  omega
theorem cRows_len {w : List Nat} {ts : List (List Nat)} (h : Tx w ts) : (cRows ts).length ≤ 1000 := by
  unfold cRows sortP
  rw [List.length_map, List.length_mergeSort]
  exact Nat.le_trans (uniq_len _) h.pn
theorem fRows_len {w : List Nat} {ts : List (List Nat)} (h : Tx w ts) : (fRows ts).length ≤ 1000 := by
  unfold fRows
  rw [List.length_map, (sortN_perm _).length_eq]
  exact Nat.le_trans (uniq_len _) h.fn
theorem by_counts_pulses {b f : Bool} {w : List Nat} {ts : List (List Nat)} (h0 : 0 < w.length) (hw : w.length ≤ 1000) (h : Tx w ts) : F_by_counts [mD b f, .str w, countsD ts, firstsD ts] = .ok (.int (pulsesZ b f w ts)) := by
  rw [countsD_rows, firstsD_rows, by_counts_ok h0 hw ?_ ?_ (by have := cRows_len h; omega) (by have := fRows_len h; omega), cRows_sum (fun p => farZ b f w p.1 p.2), fRows_sum, ← pulses_cnt]
  · intro r hr
    obtain ⟨p, hp, rfl⟩ := List.mem_map.mp hr
    exact h.prs (mem_uniq.mp (mem_sortP.mp hp))
  · intro r hr
    obtain ⟨p, hp, rfl⟩ := List.mem_map.mp hr
    exact h.fir (mem_uniq.mp (mem_sortN.mp hp))
/-! ### joined counts -/
theorem sortP_sorted (ps : List (Nat × Nat)) : (sortP ps).Pairwise fun p q => leP p q = true := List.pairwise_mergeSort (le := leP) (fun a b c h1 h2 => by simp [leP] at *; omega) (fun a b => by simp [leP]; omega) ps
theorem wsum_app {κ : Type} [DecidableEq κ] (ps qs : List (κ × Int)) (k : κ) : wsum (ps ++ qs) k = wsum ps k + wsum qs k := by
  unfold wsum
  rw [List.filter_append, List.map_append, List.sum_append]
theorem wsum_one {κ : Type} [DecidableEq κ] (g : κ → Int) (k : κ) : ∀ us : List κ, us.Nodup → wsum (us.map fun u => (u, g u)) k = if k ∈ us then g k else 0
  | [], _ => rfl
  | u :: us, hn => by
    obtain ⟨h1, h2⟩ := List.nodup_cons.mp hn
    have ih := wsum_one g k us h2
    have e : wsum ((u :: us).map fun u => (u, g u)) k = (if u = k then g u else 0) + wsum (us.map fun u => (u, g u)) k := by
      unfold wsum
      rw [List.map_cons, List.filter_cons]
      by_cases h : u = k <;> simp [h]
    rw [e, ih]
    by_cases h : u = k
    · subst h
      simp [h1]
    · have h' : k ≠ u := fun z => h z.symm
      simp [h, h']
theorem wsum_rows (ts : List (List Nat)) (p : Nat × Nat) : wsum (cRows ts) p = (cnt ts p : Int) := by
  unfold cRows
  rw [wsum_one (fun p => (cnt ts p : Int)) p _ (nodup_sortP (nodup_uniq _))]
  split
  · rfl
  · rename_i h
    have : ¬ 0 < cnt ts p := fun z => h (mem_sortP.mpr (mem_uniq.mpr (cnt_pos.mp z)))
    omega
theorem allPrs_app (ts us : List (List Nat)) : allPrs (ts ++ us) = allPrs ts ++ allPrs us := List.flatMap_append
theorem cnt_app (ts us : List (List Nat)) (p : Nat × Nat) : cnt (ts ++ us) p = cnt ts p + cnt us p := by
  unfold cnt
  rw [allPrs_app, List.count_append]
theorem cRows_fst (ts : List (List Nat)) : (cRows ts).map (·.1) = sortP (uniq (allPrs ts)) := by
  unfold cRows
  rw [List.map_map]
  exact List.map_id _
theorem joined_counts {w v : List Nat} {ts us : List (List Nat)} (h1 : Tx w ts) (h2 : Tx v us) (hw : ∀ c ∈ w, c < 0x110000) (hv : ∀ c ∈ v, c < 0x110000) : F_joined [countsD ts, countsD us] = .ok (countsD (ts ++ us)) := by
  have sg : ∀ {w : List Nat} {ts : List (List Nat)}, Tx w ts → (∀ c ∈ w, c < 0x110000) → sgnP ((cRows ts).map (·.1)) := fun h hw p hp => by
    rw [cRows_fst] at hp
    have := h.prs (mem_uniq.mp (mem_sortP.mp hp))
    exact ⟨hw _ this.1, hw _ this.2⟩
  rw [countsD_rows, countsD_rows, countsD_rows, joined_ok (sg h1 hw) (sg h2 hv) (by have := cRows_len h1; omega) (by have := cRows_len h2; omega)]
  have e1 : sortP (uniq ((cRows ts ++ cRows us).map (·.1))) = sortP (uniq (allPrs (ts ++ us))) := by
    refine sortP_eq (nodup_uniq _) (sortP_sorted _) (nodup_sortP (nodup_uniq _)) fun p => ?_
    rw [mem_uniq, mem_sortP, mem_uniq, List.map_append, List.mem_append, cRows_fst, cRows_fst, mem_sortP, mem_sortP, mem_uniq, mem_uniq, allPrs_app, List.mem_append]
  rw [e1]
  congr 2
  unfold cRows
  congr 1
  funext p
  show (p, wsum (cRows ts ++ cRows us) p) = _
  rw [wsum_app, wsum_rows, wsum_rows, cnt_app]
  simp
/-! ### drawn texts -/
theorem texts_tx {c m : Int} {w : List Nat} (hw : 0 < w.length) (h0 : 0 ≤ m) (hm : m ≤ 30) : Tx w (textsL c w m) := by
  refine ⟨fun t ht => ?_, ?_⟩
  · unfold textsL at ht
    obtain ⟨n, _, rfl⟩ := List.mem_map.mp ht
    refine ⟨fun x hx => textL_in hw _ x hx, ?_⟩
    unfold textD
    rw [textL_len]
    have := textN_le (c := c + 101 * (n : Int)) (m := 12) (by decide)
    omega
  · unfold textsL
    rw [List.length_map, List.length_range]
    have := textsN_le (c := c) h0
    omega
theorem Tx.app {w : List Nat} {ts us : List (List Nat)} (h1 : ∀ t ∈ ts, (∀ c ∈ t, c ∈ w) ∧ t.length ≤ 30) (h2 : ∀ t ∈ us, (∀ c ∈ t, c ∈ w) ∧ t.length ≤ 30) (h3 : ts.length + us.length ≤ 30) : Tx w (ts ++ us) :=
  ⟨fun t ht => (List.mem_append.mp ht).elim (h1 t) (h2 t), by rw [List.length_append]; exact h3⟩
theorem Tx.inWs {w : List Nat} {ts : List (List Nat)} (h : Tx w ts) : inWs w ts := by
  unfold Lw.inWs
  rw [List.all_eq_true]
  intro t ht
  have := h.i t ht
  rw [Bool.and_eq_true, List.all_eq_true]
  exact ⟨fun c hc => decide_eq_true (this.1 c hc), decide_eq_true (by omega)⟩
theorem Tx.sgnT {w : List Nat} {ts : List (List Nat)} (h : Tx w ts) (hw : ∀ c ∈ w, c < 0x110000) : sgnT ts := by
  unfold Lw.sgnT
  rw [List.all_eq_true]
  intro t ht
  have := h.i t ht
  rw [Bool.and_eq_true, List.all_eq_true]
  exact ⟨fun c hc => decide_eq_true (hw c (this.1 c hc)), decide_eq_true (by omega)⟩
theorem wh8 {w : List Nat} (h : Wh w) : ∀ c ∈ w, c ∈ L8 := fun c hc => by
  have := h.lt c hc
  unfold L8
  simp
  omega
theorem wh_sg {w : List Nat} (h : Wh w) : ∀ c ∈ w, c < 0x110000 := fun c hc => by
  have := h.lt c hc
  omega
theorem Wh.ok {w : List Nat} (h : Wh w) : okW w := ⟨h.nd, h.pos, h.le⟩
theorem Tx.in8 {w : List Nat} {ts : List (List Nat)} (h : Tx w ts) (hw : Wh w) : in8 ts := fun t ht => ⟨fun c hc => wh8 hw c ((h.i t ht).1 c hc), by have := (h.i t ht).2; omega⟩
theorem law_pulses_ok {b f : Bool} {w : List Nat} {ts : List (List Nat)} (hw : okW w) (ht : inWs w ts) (h3 : ts.length ≤ 1000) : F_law_pulses [mD b f, .str w, tsD ts] = .ok (.int (pulsesZ b f w ts)) := by
  show (match strsD (ts.map D.str) with
      | some us => Res.need (okW w ∧ inWs w us ∧ us.length ≤ 1000) (Res.ok (D.int (pulsesZ b f w us)))
      | none => Res.stuck) = _
  rw [strsD_map]
  exact need_ok ⟨hw, ht, h3⟩ _
theorem same_ok {x y : D} (h : sameD 5 x y = true) : F_law_same [x, y] = .ok (.bool true) := need_ok h _
theorem same_rows (rs : List ((Nat × Nat) × Int)) (h : rs.length ≤ 1000) (n : Nat) : sameD (n + 2) (rowsI rs) (rowsI rs) = true := by
  refine sameD_self (by rw [List.length_map]; exact h) fun d hd => ?_
  obtain ⟨r, _, rfl⟩ := List.mem_map.mp hd
  refine sameD_self (by simp) fun e he => ?_
  simp at he
  rcases he with rfl | rfl | rfl
  · exact sameD_str _ _
  · exact sameD_str _ _
  · exact sameD_int _ _
theorem same_sts (rs : List (Nat × Int)) (h : rs.length ≤ 1000) (n : Nat) : sameD (n + 2) (stsI rs) (stsI rs) = true := by
  refine sameD_self (by rw [List.length_map]; exact h) fun d hd => ?_
  obtain ⟨r, _, rfl⟩ := List.mem_map.mp hd
  refine sameD_self (by simp) fun e he => ?_
  simp at he
  rcases he with rfl | rfl
  · exact sameD_str _ _
  · exact sameD_int _ _
end Lw
namespace Lw
open PySem L2 DL
def b_steps_1 : XS :=
  (xWp [4, 5] (xIf (dB (d2 oEq (dVar 4) (dC (.int 0)))) (xApp 3 (dCall 4 F_way (dCons (dVar 0) (dCons (dVar 1) (dCons (d2 oIx (dVar 1) (dC (.int 0))) (dCons (dVar 5) dNil)))))) (xApp 3 (dCall 4 F_far (dCons (dVar 0) (dCons (dVar 1) (dCons (d2 oIx (dVar 2) (d2 oSub (dVar 4) (dC (.int 1)))) (dCons (dVar 5) dNil))))))))
def x_steps : XS :=
  (xSeq (xOwn 3 (dLst dNil))
    (xSeq (xWp [4, 5] (xFor (fun δ => ((dCons (dVar 2) dNil) δ).bind iEn) (DL.kTup (kCons (kName 4) (kCons (kName 5) kNil))) b_steps_1))
    (xRet (fun δ => ((dCons (dVar 3) dNil) δ).bind cTuple))))
def F_steps : List D → Res D := runX 3 6 x_steps
def l_pulses_1 : Dv → Res D :=
  (dLcX [3] (dItems (dVar 2)) (hName 3) bYes (fun δ => ((dCons (dCall 3 F_steps (dCons (dVar 0) (dCons (dVar 1) (dCons (dVar 3) dNil)))) dNil) δ).bind cSum))
def x_pulses : XS :=
  (xRet (fun δ => ((dCons l_pulses_1 dNil) δ).bind cSum))
def F_pulses : List D → Res D := runX 3 4 x_pulses
def b_ends_1 : XS :=
  (xWp [2] (xDrop (dCall 2 F_place (dCons (dVar 0) (dCons (dVar 2) dNil)))))
def x_ends : XS :=
  (xSeq (xWp [2] (xForN 1 (kName 2) b_ends_1))
    (xRet (d2 oIx (d2 oAdd (d2 oIx (dVar 0) (dC (.int 0))) (dVar 1)) (fun δ => ((dC (.int 1)) δ).bind oNeg))))
def F_ends : List D → Res D := runX 2 3 x_ends
def x_letters_of : XS :=
  (xRet (dM mJoin (dC (.str (Str.ofString "").cps.toList)) (fun δ => ((dM mJoin (dC (.str (Str.ofString "").cps.toList)) (dVar 0)) δ).bind cSortSet)))
def F_letters_of : List D → Res D := runX 1 1 x_letters_of
end Lw
namespace DL
open PySem L2
theorem loop_cutix {k : D → Env → Option Env} {b : XS} (S : Nat → Env) (xs : List D) (n : Nat) (hn : n ≤ xs.length) (hs : ∀ j x, j < n → xs[j]? = some x → xTurn k b x (S j) = .nx (S (j + 1))) : xLoop k b xs (S 0) = xLoop k b (xs.drop n) (S n) := by
  have := loop_cut (k := k) (b := b) id (fun q => S q.length) (xs.take n) (xs.drop n) fun q a r e => by
    have hq : q.length < n := by
      have := congrArg List.length e
      rw [List.length_take, List.length_append, List.length_cons] at this
      omega
    have hx : xs[q.length]? = some a := by
      have : (xs.take n)[q.length]? = some a := by rw [e]; simp
      rw [List.getElem?_take_of_lt hq] at this
      exact this
    have := hs q.length a hq hx
    simpa using this
  rw [List.map_id, List.take_append_drop, List.length_take, Nat.min_eq_left hn] at this
  exact this
theorem loop_exix {k : D → Env → Option Env} {b : XS} (S : Nat → Env) (xs : List D) (n : Nat) (x : D) (c : Nat) (ε : Env) (hx : xs[n]? = some x) (hs : ∀ j x, j < n → xs[j]? = some x → xTurn k b x (S j) = .nx (S (j + 1))) (h : xTurn k b x (S n) = .ex c ε) : xLoop k b xs (S 0) = .ex c ε := by
  obtain ⟨hl, e⟩ := List.getElem?_eq_some_iff.mp hx
  rw [loop_cutix S xs n (Nat.le_of_lt hl) hs, List.drop_eq_getElem_cons hl, e]
  unfold xLoop
  rw [h]
theorem numD_at {l : List D} {j : Nat} {x : D} (h : (numD l)[j]? = some x) : ∃ y, l[j]? = some y ∧ x = .tuple [.int (j : Int), y] := by
  unfold numD at h
  rw [List.getElem?_map] at h
  cases e : (List.range l.length)[j]? with
  | none => rw [e] at h; cases h
  | some i =>
    rw [e] at h
    cases h
    obtain ⟨h1, h2⟩ := List.getElem?_eq_some_iff.mp e
    rw [List.length_range] at h1
    rw [List.getElem_range] at h2
    subst h2
    refine ⟨l[j], List.getElem?_eq_getElem h1, ?_⟩
    show D.tuple [.int (j : Int), l.getD j .none] = _
    rw [List.getD_eq_getElem?_getD, List.getElem?_eq_getElem h1]
    rfl
theorem numD_length (l : List D) : (numD l).length = l.length := by simp [numD]
@[simp] theorem iEn_s (l : List Nat) : iEn [.str l] = .ok (numD (l.map fun c => .str [c])) := rfl
theorem oEqB_self {d : D} (h : shp 10 d = true) : oEqB d d = .ok true := by
  have hd := deq_self 10 d h
  cases d with
  | none => rfl
  | bool b => simp
  | int i => simp
  | str l => simp
  | list l => rw [oEqB_ll, need_ok ⟨h, h⟩, hd]
  | tuple l => rw [oEqB_tt, need_ok ⟨h, h⟩, hd]
  | dicK _ _ => cases h
  | dicT _ _ => cases h
  | scr _ => cases h
  | adr _ => cases h
  | obj _ _ _ _ => cases h
  | fzl l =>
    show Res.need _ _ = _
    rw [Res.need_pos ⟨h, h⟩, hd]
theorem oNe_self {d : D} (h : shp 10 d = true) : oNe d d = .ok (.bool false) := by
  unfold oNe
  rw [oEqB_self h]
  rfl
theorem oEq_self {d : D} (h : shp 10 d = true) : oEq d d = .ok (.bool true) := by
  unfold oEq
  rw [oEqB_self h]
  rfl
theorem shp_ints (n : Nat) (l : List Int) : shpAll n (l.map D.int) = true := shpAll_map _ _ _ fun a _ => by simp
end DL
namespace Lw
open PySem L2 DL
/-! ### steps, pulses, ends, letters_of -/
theorem take_mem {l : List Nat} {n : Nat} {c : Nat} (h : c ∈ l.take n) : c ∈ l := List.mem_of_mem_take h
def stE (b f : Bool) (w t : List Nat) (r : List Int) : DL.Env := [some (.fz (mD b f)), some (.fz (.str w)), some (.fz (.str t)), some (.ow (.list (r.map D.int))), none, none]
theorem w_first {w : List Nat} (h : 0 < w.length) : atI w 0 = some (w.getD 0 0) ∧ w.getD 0 0 ∈ w := by
  cases w with
  | nil => simp at h
  | cons z r => exact ⟨atI_0 z r, by simp⟩
theorem way_bad {b f : Bool} {w : List Nat} {a c : Nat} (hw : w.length ≤ big) (hc : c ∉ w) : F_way [mD b f, .str w, .str [a], .str [c]] = .exc 0 := by
  show Res.need _ (if c ∈ w ∧ a ∈ w then _ else _) = _
  rw [need_ok hw, if_neg fun z => hc z.1]
theorem far_bad {b f : Bool} {w : List Nat} {a c : Nat} (hw : w.length ≤ big) (hc : c ∉ w) : F_far [mD b f, .str w, .str [a], .str [c]] = .exc 0 := by
  show Res.need _ (if c ∈ w ∧ a ∈ w then _ else _) = _
  rw [need_ok hw, if_neg fun z => hc z.1]
theorem steps_get (b f : Bool) (w t : List Nat) {j c : Nat} (h : t[j]? = some c) : (stepsL b f w t)[j]? = some (if j = 0 then wayZ b w (w.getD 0 0) c else farZ b f w (t.getD (j - 1) 0) c) := by
  cases j with
  | zero =>
    cases t with
    | nil => cases h
    | cons x t => cases h; rfl
  | succ j =>
    have hj : j < t.length := by have := (List.getElem?_eq_some_iff.mp h).1; omega
    have := stepsL_get b f w t (List.getElem?_eq_getElem hj) h
    rw [this]
    simp [List.getD_eq_getElem?_getD, List.getElem?_eq_getElem hj]
theorem steps_turn {b f : Bool} {w t : List Nat} (h0 : 0 < w.length) (hw : w.length ≤ 1000) (ht : t.length ≤ 1000) {j c : Nat} (hj : t[j]? = some c) (hp : ∀ x ∈ t.take (j + 1), x ∈ w) :
    xTurn (DL.kTup (kCons (kName 4) (kCons (kName 5) kNil))) b_steps_1 (.tuple [.int (j : Int), .str [c]]) (stE b f w t ((stepsL b f w t).take j)) = .nx (stE b f w t ((stepsL b f w t).take (j + 1))) := by
  have hc : c ∈ w := hp c (by rw [take_succ_at hj]; simp)
  obtain ⟨z1, z2⟩ := w_first h0
  have hb : w.length ≤ 1000000 := by omega
  have hbt : t.length ≤ 1000000 := by omega
  have sg := steps_get b f w t hj
  rw [take_succ_at sg]
  have im := imm_ints ((stepsL b f w t).take j)
  have ln : (((stepsL b f w t).take j).map D.int).length < 1000000 := by
    rw [List.length_map, List.length_take, stepsL_len]
    omega
  unfold stE
  rw [List.map_append]
  generalize ((stepsL b f w t).take j).map D.int = L at im ln
  cases j with
  | zero =>
    have g := way_ok (b := b) (f := f) (w := w) hb z2 hc
    clear sg
    generalize w.getD 0 0 = z at *
    simp [Out.need, Res.need, oEq, oNe, oIn, oNi, DL.kName, DL.kTup, DL.kCons, DL.kNil, compOne, hName, hTup, hCons, hNil, big, noBox, b_steps_1, g, z1, hb, im, ln]
  | succ j =>
    have hj1 : j < t.length := by have := (List.getElem?_eq_some_iff.mp hj).1; omega
    have a1 : atI t ((j : Int) + 1 - 1) = some (t.getD j 0) := by
      have e : (j : Int) + 1 - 1 = (j : Int) := by omega
      rw [e]
      exact atI_get (by omega) (by omega) 0
    have hd : t.getD j 0 ∈ w := hp _ (by
      have : t[j]? = some (t.getD j 0) := by simp [List.getD_eq_getElem?_getD, List.getElem?_eq_getElem hj1]
      refine List.mem_of_getElem? (i := j) ?_
      rw [List.getElem?_take_of_lt (by omega)]
      exact this)
    have g := far_ok (b := b) (f := f) (w := w) hb hd hc
    have ne : ¬ ((j : Int) + 1 = 0) := by omega
    have e1 : j + 1 - 1 = j := by omega
    rw [e1]
    generalize t.getD j 0 = y at *
    have a0 : atI t (j : Int) = some y := by
      have e : (j : Int) + 1 - 1 = (j : Int) := by omega
      rw [← e]
      exact a1
    simp [Out.need, Res.need, oEq, oNe, oIn, oNi, DL.kName, DL.kTup, DL.kCons, DL.kNil, compOne, hName, hTup, hCons, hNil, big, noBox, b_steps_1, g, a1, a0, hbt, im, ln, ne]
theorem steps_ok {b f : Bool} {w t : List Nat} (h0 : 0 < w.length) (hw : w.length ≤ 1000) (ht : t.length ≤ 1000) (hi : ∀ c ∈ t, c ∈ w) : F_steps [mD b f, .str w, .str t] = .ok (.tuple ((stepsL b f w t).map D.int)) := by
  have lp := loop_ix (k := DL.kTup (kCons (kName 4) (kCons (kName 5) kNil))) (b := b_steps_1) (fun j => stE b f w t ((stepsL b f w t).take j)) (numD (t.map fun c => .str [c])) fun j x hx => by
    obtain ⟨y, hy, rfl⟩ := numD_at hx
    rw [List.getElem?_map] at hy
    cases hc : t[j]? with
    | none => rw [hc] at hy; cases hy
    | some c =>
      rw [hc] at hy
      cases hy
      exact steps_turn h0 hw ht hc fun x hx => hi x (take_mem hx)
  rw [numD_length, List.length_map] at lp
  have e : (stepsL b f w t).take t.length = stepsL b f w t := List.take_of_length_le (by rw [stepsL_len]; exact Nat.le_refl _)
  rw [e, List.take_zero] at lp
  unfold stE at lp
  simp [Out.need, Res.need, oEq, oNe, oIn, oNi, DL.kName, DL.kTup, DL.kCons, DL.kNil, compOne, hName, hTup, hCons, hNil, big, noBox, F_steps, runX, x_steps]
  have lp' : xLoop (DL.kTup (kCons (kName 4) (kCons (kName 5) kNil))) b_steps_1 (numD (t.map fun c => .str [c])) [some (.fz (mD b f)), some (.fz (.str w)), some (.fz (.str t)), some (.ow (.list [])), none, none] = _ := lp
  simp [Out.need, Res.need, oEq, oNe, oIn, oNi, DL.kName, DL.kTup, DL.kCons, DL.kNil, compOne, hName, hTup, hCons, hNil, big, noBox, lp']
/-- the first letter that stands not in w -/
theorem first_bad {w : List Nat} : ∀ {t : List Nat}, (∃ c ∈ t, c ∉ w) → ∃ j c, t[j]? = some c ∧ c ∉ w ∧ ∀ x ∈ t.take j, x ∈ w
  | [], h => by obtain ⟨c, hc, _⟩ := h; cases hc
  | x :: t, h => by
    by_cases hx : x ∈ w
    · obtain ⟨j, c, h1, h2, h3⟩ := first_bad (w := w) (t := t) (by
        obtain ⟨c, hc, hn⟩ := h
        rcases List.mem_cons.mp hc with z | z
        · subst z; exact absurd hx hn
        · exact ⟨c, z, hn⟩)
      refine ⟨j + 1, c, h1, h2, fun y hy => ?_⟩
      rw [List.take_succ_cons] at hy
      rcases List.mem_cons.mp hy with z | z
      · subst z; exact hx
      · exact h3 y z
    · exact ⟨0, x, rfl, hx, fun y hy => by cases hy⟩
theorem steps_exc {b f : Bool} {w t : List Nat} (h0 : 0 < w.length) (hw : w.length ≤ 1000) (ht : t.length ≤ 1000) (hi : ∃ c ∈ t, c ∉ w) : F_steps [mD b f, .str w, .str t] = .exc 0 := by
  obtain ⟨n, c, hn, hc, hp⟩ := first_bad hi
  have hb : w.length ≤ 1000000 := by omega
  have hbt : t.length ≤ 1000000 := by omega
  have hnl := (List.getElem?_eq_some_iff.mp hn).1
  obtain ⟨z1, z2⟩ := w_first h0
  have hlast : ∃ ε, xTurn (DL.kTup (kCons (kName 4) (kCons (kName 5) kNil))) b_steps_1 (.tuple [.int (n : Int), .str [c]]) (stE b f w t ((stepsL b f w t).take n)) = .ex 0 ε := by
    have im := imm_ints ((stepsL b f w t).take n)
    unfold stE
    generalize ((stepsL b f w t).take n).map D.int = L at im
    cases n with
    | zero =>
      have g := way_bad (b := b) (f := f) (a := w.getD 0 0) hb hc
      refine ⟨[some (.fz (mD b f)), some (.fz (.str w)), some (.fz (.str t)), some (.ow (.list L)), some (.fz (.int 0)), some (.fz (.str [c]))], ?_⟩
      generalize w.getD 0 0 = z at *
      simp [Out.need, Res.need, oEq, oNe, oIn, oNi, DL.kName, DL.kTup, DL.kCons, DL.kNil, compOne, hName, hTup, hCons, hNil, big, noBox, b_steps_1, g, z1, hb, im]
    | succ j =>
      have a1 : atI t ((j : Int) + 1 - 1) = some (t.getD j 0) := by
        have e : (j : Int) + 1 - 1 = (j : Int) := by omega
        rw [e]
        exact atI_get (by omega) (by omega) 0
      have g := far_bad (b := b) (f := f) (a := t.getD j 0) hb hc
      have ne : ¬ ((j : Int) + 1 = 0) := by omega
      generalize t.getD j 0 = y at *
      have a0 : atI t (j : Int) = some y := by
        have e : (j : Int) + 1 - 1 = (j : Int) := by omega
        rw [← e]
        exact a1
      refine ⟨[some (.fz (mD b f)), some (.fz (.str w)), some (.fz (.str t)), some (.ow (.list L)), some (.fz (.int ((j : Int) + 1))), some (.fz (.str [c]))], ?_⟩
      simp [Out.need, Res.need, oEq, oNe, oIn, oNi, DL.kName, DL.kTup, DL.kCons, DL.kNil, compOne, hName, hTup, hCons, hNil, big, noBox, b_steps_1, g, a1, a0, hbt, im, ne]
  obtain ⟨ε, hlast⟩ := hlast
  have lp := loop_exix (k := DL.kTup (kCons (kName 4) (kCons (kName 5) kNil))) (b := b_steps_1) (fun j => stE b f w t ((stepsL b f w t).take j)) (numD (t.map fun c => .str [c])) n (.tuple [.int (n : Int), .str [c]]) 0 ε ?_ (fun j x hj hx => ?_) hlast
  · rw [List.take_zero] at lp
    unfold stE at lp
    simp [Out.need, Res.need, oEq, oNe, oIn, oNi, DL.kName, DL.kTup, DL.kCons, DL.kNil, compOne, hName, hTup, hCons, hNil, big, noBox, F_steps, runX, x_steps]
    have lp' : xLoop (DL.kTup (kCons (kName 4) (kCons (kName 5) kNil))) b_steps_1 (numD (t.map fun c => .str [c])) [some (.fz (mD b f)), some (.fz (.str w)), some (.fz (.str t)), some (.ow (.list [])), none, none] = _ := lp
    simp [Out.need, Res.need, oEq, oNe, oIn, oNi, DL.kName, DL.kTup, DL.kCons, DL.kNil, compOne, hName, hTup, hCons, hNil, big, noBox, lp']
  · have hl2 : n < (numD (t.map fun c => D.str [c])).length := by rw [numD_length, List.length_map]; exact hnl
    obtain ⟨y, hy, e⟩ := numD_at (List.getElem?_eq_getElem hl2)
    rw [List.getElem?_map, hn] at hy
    cases hy
    rw [List.getElem?_eq_getElem hl2, e]
  · obtain ⟨y, hy, rfl⟩ := numD_at hx
    rw [List.getElem?_map] at hy
    cases hc2 : t[j]? with
    | none => rw [hc2] at hy; cases hy
    | some c2 =>
      rw [hc2] at hy
      cases hy
      exact steps_turn h0 hw ht hc2 fun x hx => hp x (by
        rw [show t.take (j + 1) = (t.take n).take (j + 1) by rw [List.take_take, Nat.min_eq_left (by omega)]] at hx
        exact List.mem_of_mem_take hx)
theorem pulses_ok {b f : Bool} {w : List Nat} {ts : List (List Nat)} (h0 : 0 < w.length) (hw : w.length ≤ 1000) (ht : ∀ t ∈ ts, (∀ c ∈ t, c ∈ w) ∧ t.length ≤ 1000) (hl : ts.length ≤ 1000) : F_pulses [mD b f, .str w, tsD ts] = .ok (.int (pulsesZ b f w ts)) := by
  have e1 : l_pulses_1 [some (mD b f), some (.str w), some (tsD ts), none] = .ok (.list (ts.map fun t => .int (stepsL b f w t).sum)) := by
    refine lcx_map D.str _ ts rfl (by unfold big; omega) fun t h => ?_
    have g := steps_ok (b := b) (f := f) h0 hw (ht t h).2 (ht t h).1
    simp [Out.need, Res.need, oEq, oNe, oIn, oNi, DL.kName, DL.kTup, DL.kCons, DL.kNil, compOne, hName, hTup, hCons, hNil, big, noBox, g, sumR_map]
  have s1 := sumR_map (ts.map fun t => (stepsL b f w t).sum)
  rw [List.map_map] at s1
  have s1' : sumR (ts.map fun t => D.int (stepsL b f w t).sum) = _ := s1
  simp [Out.need, Res.need, oEq, oNe, oIn, oNi, DL.kName, DL.kTup, DL.kCons, DL.kNil, compOne, hName, hTup, hCons, hNil, big, noBox, F_pulses, runX, x_pulses, e1, s1', pulsesZ]
/-! ends -/
def endsL (w t : List Nat) : Nat := t.getLastD (w.getD 0 0)
theorem atI_last (z : Nat) (t : List Nat) : atI (z :: t) (-1) = some (t.getLastD z) := by
  have := at_last (z :: t).dropLast ((z :: t).getLast (by simp))
  rw [List.dropLast_concat_getLast] at this
  rw [this, List.getLast_eq_getLastD]
theorem ends_ok {w t : List Nat} (h0 : 0 < w.length) (hw : w.length ≤ 1000) (ht : t.length ≤ 1000) (hi : ∀ c ∈ t, c ∈ w) : F_ends [.str w, .str t] = .ok (.str [endsL w t]) := by
  have lp := loop_same (k := kName 2) (b := b_ends_1) (t.map fun c => .str [c]) [some (.fz (.str w)), some (.fz (.str t)), none] fun x hx => by
    obtain ⟨c, hc, rfl⟩ := List.mem_map.mp hx
    have g := place_ok (hi c hc)
    simp [Out.need, Res.need, oEq, oNe, oIn, oNi, DL.kName, DL.kTup, DL.kCons, DL.kNil, compOne, hName, hTup, hCons, hNil, big, noBox, b_ends_1, g]
  obtain ⟨z1, z2⟩ := w_first h0
  have hb : w.length ≤ 1000000 := by omega
  have hbt : 1 + t.length ≤ 1000000 := by omega
  have hbt2 : t.length + 1 ≤ 1000000 := by omega
  have al := atI_last (w.getD 0 0) t
  unfold endsL
  generalize w.getD 0 0 = z at *
  simp [Out.need, Res.need, oEq, oNe, oIn, oNi, DL.kName, DL.kTup, DL.kCons, DL.kNil, compOne, hName, hTup, hCons, hNil, big, noBox, F_ends, runX, x_ends, lp, z1, hb, hbt, hbt2, al]
theorem place_bad {w : List Nat} {c : Nat} (hc : c ∉ w) : F_place [.str w, .str [c]] = .exc 0 := by
  show (if c ∈ w then _ else _) = _
  rw [if_neg hc]
theorem ends_exc {w t : List Nat} (hi : ∃ c ∈ t, c ∉ w) : F_ends [.str w, .str t] = .exc 0 := by
  obtain ⟨n, c, hn, hc, hp⟩ := first_bad hi
  have g := place_bad hc
  have lp := loop_exix (k := kName 2) (b := b_ends_1) (fun _ => [some (.fz (.str w)), some (.fz (.str t)), none]) (t.map fun c => .str [c]) n (.str [c]) 0 [some (.fz (.str w)), some (.fz (.str t)), some (.fz (.str [c]))] (by rw [List.getElem?_map, hn]; rfl) (fun j x hj hx => by
    rw [List.getElem?_map] at hx
    cases h2 : t[j]? with
    | none => rw [h2] at hx; cases hx
    | some c2 =>
      rw [h2] at hx
      cases hx
      have hc2 : c2 ∈ w := hp c2 (List.mem_of_getElem? (i := j) (by rw [List.getElem?_take_of_lt hj]; exact h2))
      have g2 := place_ok hc2
      simp [Out.need, Res.need, oEq, oNe, oIn, oNi, DL.kName, DL.kTup, DL.kCons, DL.kNil, compOne, hName, hTup, hCons, hNil, big, noBox, b_ends_1, g2]) (by simp [Out.need, Res.need, oEq, oNe, oIn, oNi, DL.kName, DL.kTup, DL.kCons, DL.kNil, compOne, hName, hTup, hCons, hNil, big, noBox, b_ends_1, g])
  have lp' : xLoop (kName 2) b_ends_1 (t.map fun c => .str [c]) [some (.fz (.str w)), some (.fz (.str t)), none] = _ := lp
  simp [Out.need, Res.need, oEq, oNe, oIn, oNi, DL.kName, DL.kTup, DL.kCons, DL.kNil, compOne, hName, hTup, hCons, hNil, big, noBox, F_ends, runX, x_ends, lp']
/-! letters_of -/
theorem join_nil (ys : List (List Nat)) : TL.joinL [] ys = ys.flatten := by
  induction ys with
  | nil => rfl
  | cons y ys ih =>
    cases ys with
    | nil => simp [TL.joinL]
    | cons z ys =>
      show y ++ ([] ++ TL.joinL [] (z :: ys)) = _
      rw [ih]
      simp
theorem lit_0 : (Str.ofString "").cps.toList = [] := by decide +kernel
theorem signs_map (l : List Nat) : signs l = (l.map fun c => [c]).map D.str := by
  unfold signs
  rw [List.map_map]
  rfl
theorem flat_signs (l : List Nat) : (l.map fun c => [c]).flatten = l := by
  induction l with
  | nil => rfl
  | cons c l ih => simp [ih]
theorem sum_ones (l : List Nat) : ((l.map fun c => [c]).map List.length).sum = l.length := by
  induction l with
  | nil => rfl
  | cons c l ih =>
    rw [List.map_cons, List.map_cons, List.sum_cons, ih, List.length_cons]
    simp
    omega
theorem len_flat (ys : List (List Nat)) : (ys.map List.length).sum = ys.flatten.length := by
  rw [List.length_flatten]
def lettersL (ts : List (List Nat)) : List Nat := sortN (dd ts.flatten)
theorem letters_ok {ts : List (List Nat)} (hs : ∀ t ∈ ts, ∀ c ∈ t, c < 0x110000) (hl : ts.flatten.length ≤ 4000) : F_letters_of [tsD ts] = .ok (.str (lettersL ts)) := by
  have c1 : (ts.flatten.all fun c => decide (c < 0x110000)) = true := by
    rw [List.all_eq_true]
    intro c hc
    obtain ⟨t, ht, hc⟩ := List.mem_flatten.mp hc
    exact decide_eq_true (hs t ht c hc)
  have j1 : mJoin [] (tsD ts) = .ok (.str ts.flatten) := by
    unfold tsD
    rw [mJoin_t, need_ok (by rw [len_flat, List.length_nil, Nat.mul_zero]; omega), join_nil]
  have k1 : cSortSet (.str ts.flatten) = .ok (.list (signs (sortN (dd ts.flatten)))) := need_ok ⟨hl, c1⟩ _
  have ls : (sortN (dd ts.flatten)).length ≤ 4000 := by
    rw [(sortN_perm _).length_eq]
    exact Nat.le_trans (dd_len _) hl
  have j2 : mJoin [] (.list (signs (sortN (dd ts.flatten)))) = .ok (.str (sortN (dd ts.flatten))) := by
    rw [signs_map, mJoin_l, need_ok (by rw [sum_ones]; simp; omega), join_nil, flat_signs]
  simp [Out.need, Res.need, oEq, oNe, oIn, oNi, DL.kName, DL.kTup, DL.kCons, DL.kNil, compOne, hName, hTup, hCons, hNil, big, noBox, F_letters_of, runX, x_letters_of, lit_0, j1, k1, j2, lettersL]
theorem mem_letters {ts : List (List Nat)} {c : Nat} : c ∈ lettersL ts ↔ ∃ t ∈ ts, c ∈ t := by
  unfold lettersL
  rw [mem_sortN, mem_dd, List.mem_flatten]
theorem flat_len {ts : List (List Nat)} {n : Nat} (h : ∀ t ∈ ts, t.length ≤ n) : ts.flatten.length ≤ n * ts.length := by
  induction ts with
  | nil => simp
  | cons t ts ih =>
    have h1 := h t List.mem_cons_self
    have h2 := ih fun u hu => h u (List.mem_cons_of_mem _ hu)
    rw [List.flatten_cons, List.length_append, List.length_cons, Nat.mul_add]
    omega
end Lw
namespace Lw
open PySem L2 DL
theorem cell_ok (ns : List Int) {k : Int} (h : 0 ≤ k) : F_law_cell [.scr ns, .int k] = .ok (.int (ns.getD k.toNat 0)) := need_ok h _
theorem cellm_ok (ns : List Int) (j : Nat) : F_law_cell [.scr ns, .int ((j : Int) % 9)] = .ok (.int (ns.getD ((j : Int) % 9).toNat 0)) := cell_ok ns (Int.emod_nonneg _ (by decide))
theorem wheel_call (c : Int) {m : Int} (h : 0 < m ∧ m ≤ 8) : F_law_wheel [.int c, .int m] = .ok (.str (wheelL c m)) := need_ok h _
theorem texts_call (c : Int) {w : List Nat} {m : Int} (h : 0 < w.length) (h8 : w.length ≤ 8) (h0 : 0 ≤ m) (hm : m ≤ 30) : F_law_texts [.int c, .str w, .int m] = .ok (tsD (textsL c w m)) := need_ok ⟨h, h8, h0, hm⟩ _
theorem manner_call (c : Int) : F_law_manner [.int c] = .ok (mD (mannerB c) (mannerF c)) := rfl
theorem imm_tsD (ts : List (List Nat)) : imm (tsD ts) = true := imm_map _ _ fun _ => rfl
theorem imm_counts (ts : List (List Nat)) : imm (countsD ts) = true := imm_map _ _ fun _ => rfl
theorem imm_firsts (ts : List (List Nat)) : imm (firstsD ts) = true := imm_map _ _ fun _ => rfl
theorem calm_of {d : D} (h : imm d = true) : calm d = true := by cases d <;> first | exact h | cases h
theorem small_31 (j : Int) (k : Int) (h : k.natAbs ≤ 1000) : smallI k ∨ smallI j := Or.inl (by unfold smallI; omega)
theorem texts_len (c : Int) (w : List Nat) {m : Int} (h : 0 ≤ m) : ((textsL c w m).length : Int) ≤ m := by
  unfold textsL
  rw [List.length_map, List.length_range]
  exact textsN_le h
theorem app_ts {ts us : List (List Nat)} (h : ts.length + us.length ≤ 1000000) : oAdd (tsD ts) (tsD us) = .ok (tsD (ts ++ us)) := by
  show Res.need _ _ = _
  rw [need_ok (by rw [List.length_map, List.length_map]; exact h), ← List.map_append]
  rfl
theorem shp_rows (n : Nat) {rs : List ((Nat × Nat) × Int)} (h : sgnP (rs.map (·.1))) : shp (n + 2) (rowsI rs) = true := by
  show shpAll (n + 1) (rs.map rowI) = true
  refine shpAll_map _ _ _ fun r hr => ?_
  have := h r.1 (List.mem_map_of_mem (f := (·.1)) hr)
  simp [rowI, shp_s, this.1, this.2]
theorem cRows_sgn {w : List Nat} {ts : List (List Nat)} (h : Tx w ts) (hw : ∀ c ∈ w, c < 0x110000) : sgnP ((cRows ts).map (·.1)) := fun p hp => by
  rw [cRows_fst] at hp
  have := h.prs (mem_uniq.mp (mem_sortP.mp hp))
  exact ⟨hw _ this.1, hw _ this.2⟩
/-! ### a text in two parts -/
theorem steps_take (b f : Bool) (w t : List Nat) (n : Nat) : stepsL b f w (t.take n) = (stepsL b f w t).take n := by
  apply List.ext_getElem?
  intro j
  by_cases hj : j < n
  · rw [List.getElem?_take_of_lt hj]
    cases e : t[j]? with
    | none =>
      have hl : t.length ≤ j := List.getElem?_eq_none_iff.mp e
      rw [List.getElem?_eq_none (by rw [stepsL_len, List.length_take]; omega), List.getElem?_eq_none (by rw [stepsL_len]; exact hl)]
    | some c =>
      rw [steps_get b f w t e, steps_get b f w (t.take n) (by rw [List.getElem?_take_of_lt hj]; exact e)]
      have : (t.take n).getD (j - 1) 0 = t.getD (j - 1) 0 := by
        rw [List.getD_eq_getElem?_getD, List.getD_eq_getElem?_getD, List.getElem?_take_of_lt (by omega)]
      rw [this]
  · rw [List.getElem?_eq_none (by rw [stepsL_len, List.length_take]; omega), List.getElem?_eq_none (by rw [List.length_take]; omega)]
theorem farL_drop (b f : Bool) (w : List Nat) : ∀ (m a : Nat) (t : List Nat), (farL b f w a t).drop m = farL b f w ((a :: t).getD m 0) (t.drop m)
  | 0, a, t => rfl
  | m + 1, a, [] => by simp [farL]
  | m + 1, a, c :: t => by
    show (farL b f w c t).drop m = _
    rw [farL_drop b f w m c t]
    rfl
theorem steps_drop (b f : Bool) (w t : List Nat) {n : Nat} (h : 0 < n) : (stepsL b f w t).drop n = farL b f w (t.getD (n - 1) 0) (t.drop n) := by
  cases n with
  | zero => omega
  | succ m =>
    cases t with
    | nil => simp [stepsL, farL]
    | cons c t =>
      show (farL b f w c t).drop m = _
      rw [farL_drop]
      rfl
theorem farL_turn {b f : Bool} {w : List Nat} (hn : w.Nodup) {a : Nat} (ha : a ∈ w) : ∀ (t : List Nat) (c : Nat), c ∈ w → (∀ x ∈ t, x ∈ w) → farL b f (turnL w a) c t = farL b f w c t
  | [], _, _, _ => rfl
  | x :: t, c, hc, ht => by
    have hx := ht x List.mem_cons_self
    show farZ b f (turnL w a) c x :: farL b f (turnL w a) x t = farZ b f w c x :: farL b f w x t
    rw [turn_far hn ha hc hx, farL_turn hn ha t x hx fun y hy => ht y (List.mem_cons_of_mem _ hy)]
theorem turn_head {w : List Nat} (hn : w.Nodup) {a : Nat} (ha : a ∈ w) : (turnL w a).getD 0 0 = a := by
  have h1 : a ∈ turnL w a := (turn_perm w a).mem_iff.mpr ha
  have h2 := idx_get h1
  rw [turn_place hn ha] at h2
  rw [List.getD_eq_getElem?_getD, h2]
  rfl
theorem lastD_mem {t : List Nat} {z : Nat} : t.getLastD z = z ∨ t.getLastD z ∈ t := by
  cases t with
  | nil => exact .inl rfl
  | cons c t =>
    right
    have e : (c :: t).getLastD z = (c :: t).getLast (by simp) := by
      rw [List.getLastD_eq_getLast?, List.getLast?_eq_getLast (by simp)]
      rfl
    rw [e]
    exact List.getLast_mem _
theorem lastD_app (a c : List Nat) (z : Nat) : (a ++ c).getLastD z = c.getLastD (a.getLastD z) := by
  cases c with
  | nil => simp
  | cons x c => simp
theorem ends_mem {w t : List Nat} (h0 : 0 < w.length) (hi : ∀ c ∈ t, c ∈ w) : endsL w t ∈ w := by
  unfold endsL
  rcases lastD_mem (t := t) (z := w.getD 0 0) with h | h
  · rw [h]; exact (w_first h0).2
  · exact hi _ h
end Lw
noncomputable section
namespace Lw
open PySem L2 DL
def x_all_manners : XS :=
  (xRet (dTup (dCons (dTup (dCons (dC (.bool false)) (dCons (dC (.bool false)) dNil))) (dCons (dTup (dCons (dC (.bool false)) (dCons (dC (.bool true)) dNil))) (dCons (dTup (dCons (dC (.bool true)) (dCons (dC (.bool false)) dNil))) (dCons (dTup (dCons (dC (.bool true)) (dCons (dC (.bool true)) dNil))) dNil))))))
def F_all_manners : List D → Res D := runX 0 0 x_all_manners
def b_law_are_alike_1 : XS :=
  (xWp [4] (xIf (dB (d2 oNe (dCall 4 F_law_far (dCons (dVar 0) (dCons (dVar 1) (dCons (dVar 3) (dCons (dVar 4) dNil))))) (dCall 4 F_law_far (dCons (dVar 0) (dCons (dVar 2) (dCons (dVar 3) (dCons (dVar 4) dNil))))))) (xRet (dC (.bool false))) xNext))
def b_law_are_alike_2 : XS :=
  (xWp [3, 4] (xWp [4] (xForN 1 (kName 4) b_law_are_alike_1)))
def x_law_are_alike : XS :=
  (xSeq (xIf (dB (d2 oNe (fun δ => ((dCons (dVar 1) dNil) δ).bind cSorted) (fun δ => ((dCons (dVar 2) dNil) δ).bind cSorted))) (xRet (dC (.bool false))) xNext)
    (xSeq (xWp [3, 4] (xForN 1 (kName 3) b_law_are_alike_2))
    (xRet (dC (.bool true)))))
def F_law_are_alike : List D → Res D := runX 3 5 x_law_are_alike
def x_law_word (a : Addr) (c : Nat) : XS :=
  (xSeq (xOwn 1 (dLst (dCons (dIsW a (decide (c = 0)) (dVar 0)) (dCons (dIsW a (decide (c = 1)) (dVar 0)) dNil))))
    (xSeq (xOwn 1 (d2 oAdd (dVar 1) (dLst (dCons (dIsW a (decide (c = 2)) (dVar 0)) (dCons (dIsW a (decide (c = 3)) (dVar 0)) dNil)))))
    (xSeq (xApp 1 (dIsW a (decide (c = 4)) (dVar 0)))
    (xSeq (xIf (bOr (dB (d2 oNe (dL2 oCountL (dVar 1) (dC (.bool true))) (dC (.int 1)))) (bNot (dT (dIsW a true (dVar 0))))) (xRet (dC (.str (Str.ofString "wrong").cps.toList))) xNext)
    (xRet (d2 oIx (dTup (dCons (dC (.str (Str.ofString "no letter").cps.toList)) (dCons (dC (.str (Str.ofString "no place").cps.toList)) (dCons (dC (.str (Str.ofString "bad wheel").cps.toList)) (dCons (dC (.str (Str.ofString "no deed").cps.toList)) (dCons (dC (.str (Str.ofString "no text").cps.toList)) dNil)))))) (dL2 oIndexL (dVar 1) (dC (.bool true)))))))))
end Lw
end
namespace Lw
open PySem L2 DL
/-! ### the word for an exception -/
theorem res_word (a : Addr) (c : Nat) (h : c < 5) : (x_law_word a c (startE 2 [.adr a])).res = .ok (.str (word c)) := by
  have i0 : ∀ x : D, imm x = true → True := fun _ _ => trivial
  match c, h with
  | 0, _ => simp [Out.need, Res.need, oEq, oNe, oIn, oNi, DL.kName, DL.kTup, DL.kCons, DL.kNil, compOne, hName, hTup, hCons, hNil, big, noBox, x_law_word, Sl.d, calm, word, atI_0, List.findIdx?_cons]
  | 1, _ => simp [Out.need, Res.need, oEq, oNe, oIn, oNi, DL.kName, DL.kTup, DL.kCons, DL.kNil, compOne, hName, hTup, hCons, hNil, big, noBox, x_law_word, Sl.d, calm, word, atI_1, List.findIdx?_cons]
  | 2, _ => simp [Out.need, Res.need, oEq, oNe, oIn, oNi, DL.kName, DL.kTup, DL.kCons, DL.kNil, compOne, hName, hTup, hCons, hNil, big, noBox, x_law_word, Sl.d, calm, word, atI_2, List.findIdx?_cons]
  | 3, _ => simp [Out.need, Res.need, oEq, oNe, oIn, oNi, DL.kName, DL.kTup, DL.kCons, DL.kNil, compOne, hName, hTup, hCons, hNil, big, noBox, x_law_word, Sl.d, calm, word, atI, ixN, List.findIdx?_cons]
  | 4, _ => simp [Out.need, Res.need, oEq, oNe, oIn, oNi, DL.kName, DL.kTup, DL.kCons, DL.kNil, compOne, hName, hTup, hCons, hNil, big, noBox, x_law_word, Sl.d, calm, word, atI, ixN, List.findIdx?_cons]
theorem law_far_ok {b f : Bool} {w : List Nat} {a c : Nat} (hw : okW w) (ha : a ∈ w) (hc : c ∈ w) : F_law_far [mD b f, .str w, .str [a], .str [c]] = .ok (.int (farZ b f w a c)) := need_ok ⟨hw, ha, hc⟩ _
theorem okW_perm {u v : List Nat} (h : okW u) (p : u.Perm v) : okW v := ⟨p.nodup_iff.mp h.1, by rw [← p.length_eq]; exact h.2.1, by rw [← p.length_eq]; exact h.2.2⟩
theorem alike_false (b f : Bool) (u v : List Nat) : alikeB b f u v = (decide (u.Perm v) && !(u.any fun x => u.any fun y => !decide (farZ b f u x y = farZ b f v x y))) := by
  unfold alikeB
  congr 1
  rw [List.not_any_eq_all_not]
  congr 1
  funext x
  rw [List.not_any_eq_all_not]
  congr 1
  funext y
  simp
theorem law_alike_ok {b f : Bool} {u v : List Nat} (hu : okW u) (su : ∀ c ∈ u, c < 0x110000) (sv : ∀ c ∈ v, c < 0x110000) (lv : v.length ≤ 1000) : F_law_are_alike [mD b f, .str u, .str v] = .ok (.bool (alikeB b f u v)) := by
  have b1 : u.length ≤ big := by have := hu.2.2; unfold big; omega
  have b2 : v.length ≤ big := by unfold big; omega
  have s1 := cSorted_str su b1
  have s2 := cSorted_str sv b2
  have n1 := oNe_signs (l := sortN u) (m := sortN v) (fun c hc => su c (sortN_mem hc)) (fun c hc => sv c (sortN_mem hc))
  rw [alike_false]
  by_cases hp : u.Perm v
  · have hv := okW_perm hu hp
    have e1 : sortN u = sortN v := sortN_eq.mpr hp
    rw [e1] at s1 n1
    have ee : oEqB (.list (signs (sortN v))) (.list (signs (sortN v))) = .ok true := by
      have := n1
      unfold oNe at this
      cases q : oEqB (.list (signs (sortN v))) (.list (signs (sortN v))) with
      | ok t => rw [q] at this; simp at this; rw [this]
      | exc c => rw [q] at this; cases this
      | stuck => rw [q] at this; cases this
    have inner : ∀ x ∈ u, xLoop (kName 4) b_law_are_alike_1 (u.map fun c => .str [c]) [some (.fz (mD b f)), some (.fz (.str u)), some (.fz (.str v)), some (.fz (.str [x])), none] = if (u.any fun y => !decide (farZ b f u x y = farZ b f v x y)) = true then .rt (.bool false) else .nx [some (.fz (mD b f)), some (.fz (.str u)), some (.fz (.str v)), some (.fz (.str [x])), none] := fun x hx => by
      refine loop_any (fun c => D.str [c]) _ u (fun y => !decide (farZ b f u x y = farZ b f v x y)) (.bool false) fun y hy => ?_
      have f1 := law_far_ok (b := b) (f := f) hu hx hy
      have f2 := law_far_ok (b := b) (f := f) hv (hp.mem_iff.mp hx) (hp.mem_iff.mp hy)
      by_cases q : farZ b f u x y = farZ b f v x y
      · simp [Out.need, Res.need, oEq, oNe, oIn, oNi, DL.kName, DL.kTup, DL.kCons, DL.kNil, compOne, hName, hTup, hCons, hNil, big, noBox, b_law_are_alike_1, f1, f2, q]
      · simp [Out.need, Res.need, oEq, oNe, oIn, oNi, DL.kName, DL.kTup, DL.kCons, DL.kNil, compOne, hName, hTup, hCons, hNil, big, noBox, b_law_are_alike_1, f1, f2, q]
    have outer : xLoop (kName 3) b_law_are_alike_2 (u.map fun c => .str [c]) [some (.fz (mD b f)), some (.fz (.str u)), some (.fz (.str v)), none, none] = if (u.any fun x => u.any fun y => !decide (farZ b f u x y = farZ b f v x y)) = true then .rt (.bool false) else .nx [some (.fz (mD b f)), some (.fz (.str u)), some (.fz (.str v)), none, none] := by
      refine loop_any (fun c => D.str [c]) _ u (fun x => u.any fun y => !decide (farZ b f u x y = farZ b f v x y)) (.bool false) fun x hx => ?_
      have i1 := inner x hx
      cases q : u.any (fun y => !decide (farZ b f u x y = farZ b f v x y)) with
      | true =>
        rw [q] at i1
        simp [Out.need, Res.need, oEq, oNe, oIn, oNi, DL.kName, DL.kTup, DL.kCons, DL.kNil, compOne, hName, hTup, hCons, hNil, big, noBox, b_law_are_alike_2, i1]
      | false =>
        rw [q] at i1
        simp [Out.need, Res.need, oEq, oNe, oIn, oNi, DL.kName, DL.kTup, DL.kCons, DL.kNil, compOne, hName, hTup, hCons, hNil, big, noBox, b_law_are_alike_2, i1]
    rw [decide_eq_true hp, Bool.true_and]
    cases q : u.any (fun x => u.any fun y => !decide (farZ b f u x y = farZ b f v x y)) with
    | true =>
      rw [q] at outer
      simp [Out.need, Res.need, oNe, noBox, F_law_are_alike, runX, x_law_are_alike, s1, s2, ee, outer, -oEqB_ll]
    | false =>
      rw [q] at outer
      simp [Out.need, Res.need, oNe, noBox, F_law_are_alike, runX, x_law_are_alike, s1, s2, ee, outer, -oEqB_ll]
  · have e1 : sortN u ≠ sortN v := fun z => hp (sortN_eq.mp z)
    rw [decide_eq_false e1] at n1
    have ee : oEqB (.list (signs (sortN u))) (.list (signs (sortN v))) = .ok false := by
      have := n1
      unfold oNe at this
      cases q : oEqB (.list (signs (sortN u))) (.list (signs (sortN v))) with
      | ok t => rw [q] at this; simp at this; rw [this]
      | exc c => rw [q] at this; cases this
      | stuck => rw [q] at this; cases this
    rw [decide_eq_false hp, Bool.false_and]
    simp [Out.need, Res.need, oNe, noBox, F_law_are_alike, runX, x_law_are_alike, s1, s2, ee, -oEqB_ll]
end Lw
noncomputable section
namespace Lw
open PySem L2 DL
def l_is_wheel_1 : Dv → Res D :=
  (dLc [1] (dItems (dVar 0)) (hName 1) bYes (d2 oIn (dVar 1) (dC (.str (Str.ofString "abcdefghijklmnopqrstuvwxyz").cps.toList))))
def x_is_wheel : XS :=
  (xSeq (xIf (bOr (bNot (dT (dIsi ["str"] (dVar 0)))) (bNot (dB (dChain oLe oLe (dC (.int 1)) (fun δ => ((dCons (dVar 0) dNil) δ).bind cLen) (dC (.int 8)))))) (xRet (dC (.bool false))) xNext)
    (xRet (dAndV (fun δ => ((dCons l_is_wheel_1 dNil) δ).bind cAll) (d2 oEq (fun δ => ((dVar 0) δ).bind cLenSet) (fun δ => ((dCons (dVar 0) dNil) δ).bind cLen)))))
def F_is_wheel : List D → Res D := runX 1 2 x_is_wheel
def l_is_text_1 : Dv → Res D :=
  (dLc [2] (dItems (dVar 1)) (hName 2) bYes (d2 oIn (dVar 2) (dVar 0)))
def x_is_text : XS :=
  (xRet (dAndV (dIsi ["str"] (dVar 1)) (dAndV (d2 oLe (fun δ => ((dCons (dVar 1) dNil) δ).bind cLen) (dC (.int 30))) (fun δ => ((dCons l_is_text_1 dNil) δ).bind cAll))))
def F_is_text : List D → Res D := runX 2 3 x_is_text
def l_are_texts_1 : Dv → Res D :=
  (dLc [2] (dItems (dVar 1)) (hName 2) bYes (dCall 2 F_is_text (dCons (dVar 0) (dCons (dVar 2) dNil))))
def x_are_texts : XS :=
  (xRet (dAndV (dIsi ["tuple"] (dVar 1)) (dAndV (d2 oLe (fun δ => ((dCons (dVar 1) dNil) δ).bind cLen) (dC (.int 6))) (fun δ => ((dCons l_are_texts_1 dNil) δ).bind cAll))))
def F_are_texts : List D → Res D := runX 2 3 x_are_texts
def x_wheel_text : XS :=
  (xSeq (xSet 2 (dIf (dT (d2 oIx (dVar 0) (dC (.int 0)))) (dC (.str (Str.ofString "both").cps.toList)) (dC (.str (Str.ofString "forth").cps.toList))))
    (xRet (d2 oAdd (d2 oAdd (d2 oAdd (d2 oAdd (dVar 2) (dC (.str (Str.ofString " ").cps.toList))) (dIf (dT (d2 oIx (dVar 0) (dC (.int 1)))) (dC (.str (Str.ofString "full").cps.toList)) (dC (.str (Str.ofString "free").cps.toList)))) (dC (.str (Str.ofString " ").cps.toList))) (dVar 1))))
def F_wheel_text : List D → Res D := runX 2 3 x_wheel_text
def l_texts_text_1 : Dv → Res D :=
  (dLc [1] (dItems (dVar 0)) (hName 1) bYes (d2 oAdd (d2 oAdd (dC (.str (Str.ofString ">").cps.toList)) (dVar 1)) (dC (.str (Str.ofString "\n").cps.toList))))
def x_texts_text : XS :=
  (xRet (dM mJoin (dC (.str (Str.ofString "").cps.toList)) l_texts_text_1))
def F_texts_text : List D → Res D := runX 1 2 x_texts_text
def l_trail_text_1 : Dv → Res D :=
  (dLc [2, 3] (fun δ => ((dCons (dVar 0) (dCons (dVar 1) dNil)) δ).bind iZipT) (hTup 2 (hCons (hName 2) (hCons (hName 3) hNil))) bYes (d2 oAdd (dVar 2) (fun δ => ((dCons (dVar 3) dNil) δ).bind cStr)))
def x_trail_text : XS :=
  (xRet (dM mJoin (dC (.str (Str.ofString " ").cps.toList)) l_trail_text_1))
def F_trail_text : List D → Res D := runX 2 4 x_trail_text
def x_trail : XS :=
  (xRet (dCall 2 F_trail_text (dCons (dVar 2) (dCons (dCall 3 F_steps (dCons (dVar 0) (dCons (dVar 1) (dCons (dVar 2) dNil)))) dNil))))
def F_trail : List D → Res D := runX 3 3 x_trail
def x_must : XS :=
  (xIf (bNot (dT (dVar 0))) (xRaise 4) xNext)
def F_must : List D → Res D := runX 1 1 x_must
def x_read_wheel : XS :=
  (xSeq (xSet 1 (dM mSplit (dVar 0) (dC (.str (Str.ofString " ").cps.toList))))
    (xSeq (xDrop (dCall 1 F_must (dCons (dAndV (d2 oEq (fun δ => ((dCons (dVar 1) dNil) δ).bind cLen) (dC (.int 3))) (dCall 1 F_is_wheel (dCons (d2 oIx (dVar 1) (dC (.int 2))) dNil))) dNil)))
    (xSeq (xSet 2 (dTup (dCons (dTup (dCons (d2 oEq (d2 oIx (dVar 1) (dC (.int 0))) (dC (.str (Str.ofString "both").cps.toList))) (dCons (d2 oEq (d2 oIx (dVar 1) (dC (.int 1))) (dC (.str (Str.ofString "full").cps.toList))) dNil))) (dCons (d2 oIx (dVar 1) (dC (.int 2))) dNil))))
    (xSeq (xDrop (dCall 1 F_must (dCons (d2 oEq (dCall 2 F_wheel_text (dCons (d2 oIx (dVar 2) (dC (.int 0))) (dCons (d2 oIx (dVar 2) (dC (.int 1))) dNil))) (dVar 0)) dNil)))
    (xRet (fun δ => noBox (dVar 2 δ)))))))
def F_read_wheel : List D → Res D := runX 1 3 x_read_wheel
def l_read_texts_1 : Dv → Res D :=
  (dLc [3] (dItems (dSl (dM mSplit (dVar 1) (dC (.str (Str.ofString "\n").cps.toList))) dNoP (dPt (fun δ => ((dC (.int 1)) δ).bind oNeg)))) (hName 3) bYes (dSl (dVar 3) (dPt (dC (.int 1))) dNoP))
def x_read_texts : XS :=
  (xSeq (xSet 2 (fun δ => ((dCons l_read_texts_1 dNil) δ).bind cTuple))
    (xSeq (xDrop (dCall 1 F_must (dCons (dAndV (dCall 2 F_are_texts (dCons (dVar 0) (dCons (dVar 2) dNil))) (d2 oEq (dCall 1 F_texts_text (dCons (dVar 2) dNil)) (dVar 1))) dNil)))
    (xRet (fun δ => noBox (dVar 2 δ)))))
def F_read_texts : List D → Res D := runX 2 4 x_read_texts
def l_pair_in_1 : Dv → Res D :=
  (dLc [1] (dItems (dSl (dVar 0) (dPt (dC (.int 1))) dNoP)) (hName 1) bYes (d2 oIn (dVar 1) (dC (.str (Str.ofString "0123456789").cps.toList))))
def x_pair_in : XS :=
  (xSeq (xDrop (dCall 1 F_must (dCons (dAndV (dChain oLe oLe (dC (.int 2)) (fun δ => ((dCons (dVar 0) dNil) δ).bind cLen) (dC (.int 3))) (dAndV (d2 oIn (d2 oIx (dVar 0) (dC (.int 0))) (dC (.str (Str.ofString "abcdefghijklmnopqrstuvwxyz").cps.toList))) (fun δ => ((dCons l_pair_in_1 dNil) δ).bind cAll))) dNil)))
    (xRet (dTup (dCons (d2 oIx (dVar 0) (dC (.int 0))) (dCons (fun δ => ((dCons (dSl (dVar 0) (dPt (dC (.int 1))) dNoP) dNil) δ).bind cIntS) dNil)))))
def F_pair_in : List D → Res D := runX 1 2 x_pair_in
def l_read_trail_1 : Dv → Res D :=
  (dLc [4] (dItems (dVar 1)) (hName 4) bYes (d2 oIx (dVar 4) (dC (.int 0))))
def l_read_trail_2 : Dv → Res D :=
  (dLc [4] (dItems (dVar 1)) (hName 4) bYes (d2 oIx (dVar 4) (dC (.int 1))))
def l_read_trail_3 : Dv → Res D :=
  (dLcX [2] (dItems (dM mSplit (dVar 0) (dC (.str (Str.ofString " ").cps.toList)))) (hName 2) bYes (dCall 1 F_pair_in (dCons (dVar 2) dNil)))
def x_read_trail : XS :=
  (xSeq (xSet 1 (dIf (dT (dVar 0)) l_read_trail_3 (dLst dNil)))
    (xSeq (xSet 3 (dTup (dCons (dM mJoin (dC (.str (Str.ofString "").cps.toList)) l_read_trail_1) (dCons (fun δ => ((dCons l_read_trail_2 dNil) δ).bind cTuple) dNil))))
    (xSeq (xDrop (dCall 1 F_must (dCons (d2 oEq (dCall 2 F_trail_text (dCons (d2 oIx (dVar 3) (dC (.int 0))) (dCons (d2 oIx (dVar 3) (dC (.int 1))) dNil))) (dVar 0)) dNil)))
    (xRet (fun δ => noBox (dVar 3 δ))))))
def F_read_trail : List D → Res D := runX 1 5 x_read_trail
end Lw
end
namespace Lw
open PySem L2 DL
/-! ### writing and reading -/
def cBoth : List Nat := [98, 111, 116, 104]
def cForth : List Nat := [102, 111, 114, 116, 104]
def cFull : List Nat := [102, 117, 108, 108]
def cFree : List Nat := [102, 114, 101, 101]
theorem lit_both : (Str.ofString "both").cps.toList = cBoth := by decide +kernel
theorem lit_forth : (Str.ofString "forth").cps.toList = cForth := by decide +kernel
theorem lit_full : (Str.ofString "full").cps.toList = cFull := by decide +kernel
theorem lit_free : (Str.ofString "free").cps.toList = cFree := by decide +kernel
theorem lit_sp : (Str.ofString " ").cps.toList = [32] := by decide +kernel
theorem lit_gt : (Str.ofString ">").cps.toList = [62] := by decide +kernel
theorem lit_nl : (Str.ofString "\n").cps.toList = [10] := by decide +kernel
def abc : List Nat := (List.range 26).map (97 + ·)
def figs : List Nat := (List.range 10).map (48 + ·)
theorem lit_abc : (Str.ofString "abcdefghijklmnopqrstuvwxyz").cps.toList = abc := by decide +kernel
theorem lit_figs : (Str.ofString "0123456789").cps.toList = figs := by decide +kernel
theorem mem_abc {c : Nat} : c ∈ abc ↔ 97 ≤ c ∧ c ≤ 122 := by
  unfold abc
  rw [List.mem_map]
  constructor
  · rintro ⟨a, h, rfl⟩
    have := List.mem_range.mp h
    omega
  · intro h
    exact ⟨c - 97, List.mem_range.mpr (by omega), by omega⟩
theorem mem_figs {c : Nat} : c ∈ figs ↔ 48 ≤ c ∧ c ≤ 57 := by
  unfold figs
  rw [List.mem_map]
  constructor
  · rintro ⟨a, h, rfl⟩
    have := List.mem_range.mp h
    omega
  · intro h
    exact ⟨c - 48, List.mem_range.mpr (by omega), by omega⟩
/-! cuts -/
theorem cuts_acc (c : Nat) : ∀ (y acc r : List Nat), c ∉ y → cutsAt c acc (y ++ r) = cutsAt c (acc ++ y) r
  | [], acc, r, _ => by simp
  | x :: y, acc, r, h => by
    have hx : x ≠ c := fun e => h (by rw [e]; exact List.mem_cons_self)
    rw [List.cons_append]
    unfold cutsAt
    rw [if_neg hx, cuts_acc c y _ r fun z => h (List.mem_cons_of_mem _ z), List.append_assoc]
    cases r <;> rfl
theorem cuts_app {c : Nat} {y : List Nat} (h : c ∉ y) (r : List Nat) : cutsAt c [] (y ++ c :: r) = y :: cutsAt c [] r := by
  rw [cuts_acc c y [] _ h, List.nil_append]
  show (if c = c then _ else _) = _
  rw [if_pos rfl]
theorem cuts_end {c : Nat} {y : List Nat} (h : c ∉ y) : cutsAt c [] y = [y] := by
  have := cuts_acc c y [] [] h
  rw [List.append_nil] at this
  rw [this]
  rfl
theorem cuts_join {c : Nat} : ∀ {ys : List (List Nat)}, ys ≠ [] → (∀ y ∈ ys, c ∉ y) → cutsAt c [] (TL.joinL [c] ys) = ys
  | [], h, _ => absurd rfl h
  | [y], _, h => by
    show cutsAt c [] y = _
    exact cuts_end (h y List.mem_cons_self)
  | y :: z :: ys, _, h => by
    show cutsAt c [] (y ++ ([c] ++ TL.joinL [c] (z :: ys))) = _
    rw [List.cons_append, List.nil_append, cuts_app (h y List.mem_cons_self), cuts_join (by simp) fun u hu => h u (List.mem_cons_of_mem _ hu)]
theorem cuts_len (c : Nat) : ∀ (l acc : List Nat), (cutsAt c acc l).length ≤ l.length + 1
  | [], acc => by simp [cutsAt]
  | x :: r, acc => by
    unfold cutsAt
    split
    · have := cuts_len c r []
      simp
      omega
    · have := cuts_len c r (acc ++ [x])
      simp
      omega
theorem cuts_mem (c : Nat) : ∀ (l acc : List Nat), ∀ y ∈ cutsAt c acc l, (∀ x ∈ y, x ∈ acc ∨ x ∈ l) ∧ y.length ≤ acc.length + l.length
  | [], acc, y, h => by
    have : y = acc := by simpa [cutsAt] using h
    subst this
    exact ⟨fun x hx => .inl hx, by simp⟩
  | x :: r, acc, y, h => by
    unfold cutsAt at h
    split at h
    · rcases List.mem_cons.mp h with e | e
      · subst e
        exact ⟨fun x hx => .inl hx, by simp⟩
      · obtain ⟨h1, h2⟩ := cuts_mem c r [] y e
        refine ⟨fun z hz => ?_, by simp at h2 ⊢; omega⟩
        rcases h1 z hz with q | q
        · cases q
        · exact .inr (List.mem_cons_of_mem _ q)
    · obtain ⟨h1, h2⟩ := cuts_mem c r (acc ++ [x]) y h
      refine ⟨fun z hz => ?_, by simp at h2 ⊢; omega⟩
      rcases h1 z hz with q | q
      · rcases List.mem_append.mp q with q | q
        · exact .inl q
        · have : z = x := by simpa using q
          subst this
          exact .inr List.mem_cons_self
      · exact .inr (List.mem_cons_of_mem _ q)
theorem cuts_ne (c : Nat) (l acc : List Nat) : cutsAt c acc l ≠ [] := by
  induction l generalizing acc with
  | nil => simp [cutsAt]
  | cons x r ih =>
    unfold cutsAt
    split
    · simp
    · exact ih _
/-! must -/
theorem must_t : F_must [.bool true] = .ok .none := by simp [Out.need, Res.need, oEq, oNe, oIn, oNi, DL.kName, DL.kTup, DL.kCons, DL.kNil, compOne, hName, hTup, hCons, hNil, big, noBox, F_must, runX, x_must]
theorem must_f : F_must [.bool false] = .exc 4 := by simp [Out.need, Res.need, oEq, oNe, oIn, oNi, DL.kName, DL.kTup, DL.kCons, DL.kNil, compOne, hName, hTup, hCons, hNil, big, noBox, F_must, runX, x_must]
theorem must_b (b : Bool) : F_must [.bool b] = if b = true then .ok .none else .exc 4 := by
  cases b
  · exact must_f
  · exact must_t
/-! wheel_text -/
def wtL (b f : Bool) (w : List Nat) : List Nat := (if b = true then cBoth else cForth) ++ 32 :: ((if f = true then cFull else cFree) ++ 32 :: w)
theorem wheel_text_ok {b f : Bool} {w : List Nat} (hw : w.length ≤ 1000) : F_wheel_text [mD b f, .str w] = .ok (.str (wtL b f w)) := by
  have h1 : 10 + w.length ≤ 1000000 := by omega
  have h2 : 11 + w.length ≤ 1000000 := by omega
  cases b <;> cases f <;> simp [Out.need, Res.need, oEq, oNe, oIn, oNi, DL.kName, DL.kTup, DL.kCons, DL.kNil, compOne, hName, hTup, hCons, hNil, big, noBox, F_wheel_text, runX, x_wheel_text, mD, atI_0, atI_1, lit_both, lit_forth, lit_full, lit_free, lit_sp, wtL, cBoth, cForth, cFull, cFree, h1, h2]
/-! texts_text -/
def lnL (t : List Nat) : List Nat := 62 :: (t ++ [10])
def ttL (ts : List (List Nat)) : List Nat := ts.flatMap lnL
theorem ttL_len {ts : List (List Nat)} {n : Nat} (h : ∀ t ∈ ts, t.length ≤ n) : (ttL ts).length ≤ (n + 2) * ts.length := by
  unfold ttL
  induction ts with
  | nil => simp
  | cons t ts ih =>
    have h1 := h t List.mem_cons_self
    have h2 := ih fun u hu => h u (List.mem_cons_of_mem _ hu)
    rw [List.flatMap_cons, List.length_append, List.length_cons, Nat.mul_add]
    have e : (lnL t).length = t.length + 2 := by unfold lnL; simp
    rw [e]
    omega
theorem texts_text_ok {ts : List (List Nat)} (ht : ∀ t ∈ ts, t.length ≤ 1000) (hl : ts.length ≤ 500) : F_texts_text [tsD ts] = .ok (.str (ttL ts)) := by
  have e1 : l_texts_text_1 [some (tsD ts), none] = .ok (.list ((ts.map lnL).map D.str)) := by
    rw [List.map_map]
    refine lc_map D.str _ ts rfl (by unfold big; omega) fun t h => ?_
    have h1 := ht t h
    have h2 : 1 + t.length ≤ 1000000 := by omega
    have h3 : t.length + 1 + 1 ≤ 1000000 := by omega
    have h4 : 1 + t.length + 1 ≤ 1000000 := by omega
    have h5 : t.length + 1 ≤ 1000000 := by omega
    simp [Out.need, Res.need, oEq, oNe, oIn, oNi, DL.kName, DL.kTup, DL.kCons, DL.kNil, compOne, hName, hTup, hCons, hNil, big, noBox, lit_gt, lit_nl, h2, h3, h4, h5, lnL]
  have fl := ttL_len ht
  have j1 : mJoin [] (.list ((ts.map lnL).map D.str)) = .ok (.str (ttL ts)) := by
    rw [mJoin_l, need_ok (by
      rw [len_flat, List.length_nil, Nat.mul_zero]
      have : (ts.map lnL).flatten = ttL ts := by unfold ttL; rw [List.flatMap_def]
      rw [this]
      have : (1000 + 2) * ts.length ≤ 501000 := by
        calc (1000 + 2) * ts.length ≤ 1002 * 500 := Nat.mul_le_mul_left _ hl
          _ = 501000 := rfl
      omega), join_nil]
    unfold ttL
    rw [List.flatMap_def]
  generalize (ts.map lnL).map D.str = L at *
  simp [Out.need, Res.need, oEq, oNe, oIn, oNi, DL.kName, DL.kTup, DL.kCons, DL.kNil, compOne, hName, hTup, hCons, hNil, big, noBox, F_texts_text, runX, x_texts_text, lit_0, e1, j1]
/-! trail_text -/
def wdL (p : Nat × Nat) : List Nat := p.1 :: numL p.2
def trL (ps : List (Nat × Nat)) : List Nat := TL.joinL [32] (ps.map wdL)
def nsD (ps : List (Nat × Nat)) : D := .tuple (ps.map fun p => .int (p.2 : Int))
theorem numL_len (n : Nat) : (numL n).length ≤ 2 := by unfold numL; split <;> simp
theorem zipD_pairs (ps : List (Nat × Nat)) : zipD ((ps.map (·.1)).map fun c => D.str [c]) (ps.map fun p => .int (p.2 : Int)) = ps.map fun p => .tuple [.str [p.1], .int (p.2 : Int)] := by
  induction ps with
  | nil => rfl
  | cons p ps ih =>
    rw [List.map_cons, List.map_cons, List.map_cons, List.map_cons]
    unfold zipD
    rw [ih]
theorem wd_sum (ps : List (Nat × Nat)) : ((ps.map wdL).map List.length).sum ≤ 3 * ps.length := by
  induction ps with
  | nil => simp
  | cons p ps ih =>
    have := numL_len p.2
    rw [List.map_cons, List.map_cons, List.sum_cons, List.length_cons]
    have e : (wdL p).length = (numL p.2).length + 1 := rfl
    rw [e]
    omega
theorem trail_text_ok {ps : List (Nat × Nat)} (hn : ∀ p ∈ ps, p.2 < 100) (hl : ps.length ≤ 1000) : F_trail_text [.str (ps.map (·.1)), nsD ps] = .ok (.str (trL ps)) := by
  have e1 : l_trail_text_1 [some (.str (ps.map (·.1))), some (nsD ps), none, none] = .ok (.list ((ps.map wdL).map D.str)) := by
    rw [List.map_map]
    refine lc_map (fun p : Nat × Nat => D.tuple [.str [p.1], .int (p.2 : Int)]) _ ps ?_ (by unfold big; omega) fun p h => ?_
    · show iZipT [.str (ps.map (·.1)), .tuple (ps.map fun p => .int (p.2 : Int))] = _
      rw [iZipT_at, zipD_pairs]
    · have h1 := hn p h
      have h2 := numL_len p.2
      have h3 : 1 + (numL p.2).length ≤ 1000000 := by omega
      have h4 : (numL p.2).length + 1 ≤ 1000000 := by omega
      simp [Out.need, Res.need, oEq, oNe, oIn, oNi, DL.kName, DL.kTup, DL.kCons, DL.kNil, compOne, hName, hTup, hCons, hNil, big, noBox, h1, h3, h4, wdL]
  have j1 : mJoin [32] (.list ((ps.map wdL).map D.str)) = .ok (.str (trL ps)) := by
    rw [mJoin_l, need_ok (by
      have := wd_sum ps
      rw [List.length_map]
      simp only [List.length_cons, List.length_nil]
      omega)]
    rfl
  generalize (ps.map wdL).map D.str = L at *
  simp [Out.need, Res.need, oEq, oNe, oIn, oNi, DL.kName, DL.kTup, DL.kCons, DL.kNil, compOne, hName, hTup, hCons, hNil, big, noBox, F_trail_text, runX, x_trail_text, lit_sp, e1, j1]
/-! trail -/
def trP (b f : Bool) (w t : List Nat) : List (Nat × Nat) := t.zip ((stepsL b f w t).map Int.toNat)
theorem trP_fst (b f : Bool) (w t : List Nat) : (trP b f w t).map (·.1) = t := by
  unfold trP
  exact List.map_fst_zip (by rw [List.length_map, stepsL_len]; exact Nat.le_refl _)
theorem steps_lo {b f : Bool} {w t : List Nat} (h0 : 0 < w.length) (hi : ∀ c ∈ t, c ∈ w) : ∀ x ∈ stepsL b f w t, 0 ≤ x ∧ x ≤ w.length := by
  intro x hx
  obtain ⟨j, hj⟩ := List.getElem?_of_mem hx
  have hl : j < t.length := by
    have := (List.getElem?_eq_some_iff.mp hj).1
    rw [stepsL_len] at this
    exact this
  rw [steps_get b f w t (List.getElem?_eq_getElem hl)] at hj
  split at hj
  · cases hj
    exact way_le (w_first h0).2
  · cases hj
    refine far_le ?_
    have : j - 1 < t.length := by omega
    rw [List.getD_eq_getElem?_getD, List.getElem?_eq_getElem this]
    exact hi _ (List.getElem_mem this)
theorem trP_snd {b f : Bool} {w t : List Nat} (h0 : 0 < w.length) (hi : ∀ c ∈ t, c ∈ w) : (trP b f w t).map (fun p => (p.2 : Int)) = stepsL b f w t := by
  have e : (trP b f w t).map (fun p => (p.2 : Int)) = ((trP b f w t).map (·.2)).map fun n : Nat => (n : Int) := by rw [List.map_map]; rfl
  rw [e]
  unfold trP
  rw [List.map_snd_zip (by rw [List.length_map, stepsL_len]; exact Nat.le_refl _), List.map_map]
  have : ∀ l : List Int, (∀ x ∈ l, 0 ≤ x) → l.map ((fun n : Nat => (n : Int)) ∘ Int.toNat) = l := by
    intro l
    induction l with
    | nil => intro _; rfl
    | cons x l ih =>
      intro h
      rw [List.map_cons, ih fun y hy => h y (List.mem_cons_of_mem _ hy)]
      have := h x List.mem_cons_self
      show ((x.toNat : Nat) : Int) :: l = _
      rw [Int.toNat_of_nonneg this]
  exact this _ fun x hx => (steps_lo h0 hi x hx).1
theorem trP_nsD {b f : Bool} {w t : List Nat} (h0 : 0 < w.length) (hi : ∀ c ∈ t, c ∈ w) : nsD (trP b f w t) = .tuple ((stepsL b f w t).map D.int) := by
  unfold nsD
  rw [← trP_snd (b := b) (f := f) h0 hi, List.map_map]
  rfl
theorem trP_len (b f : Bool) (w t : List Nat) : (trP b f w t).length = t.length := by
  have := congrArg List.length (trP_fst b f w t)
  rw [List.length_map] at this
  exact this
theorem trP_small {b f : Bool} {w t : List Nat} (h0 : 0 < w.length) (hw : w.length ≤ 99) (hi : ∀ c ∈ t, c ∈ w) : ∀ p ∈ trP b f w t, p.2 < 100 := by
  intro p hp
  have : (p.2 : Int) ∈ stepsL b f w t := by
    rw [← trP_snd (b := b) (f := f) h0 hi]
    exact List.mem_map_of_mem (f := fun p : Nat × Nat => (p.2 : Int)) hp
  have := steps_lo h0 hi _ this
  omega
theorem trail_ok {b f : Bool} {w t : List Nat} (h0 : 0 < w.length) (hw : w.length ≤ 99) (ht : t.length ≤ 1000) (hi : ∀ c ∈ t, c ∈ w) : F_trail [mD b f, .str w, .str t] = .ok (.str (trL (trP b f w t))) := by
  have s1 := steps_ok (b := b) (f := f) h0 (by omega) ht hi
  have t1 := trail_text_ok (trP_small (b := b) (f := f) h0 hw hi) (by rw [trP_len]; exact ht)
  rw [trP_fst, trP_nsD h0 hi] at t1
  generalize D.tuple ((stepsL b f w t).map D.int) = S at *
  simp [Out.need, Res.need, oEq, oNe, oIn, oNi, DL.kName, DL.kTup, DL.kCons, DL.kNil, compOne, hName, hTup, hCons, hNil, big, noBox, F_trail, runX, x_trail, s1, t1]
theorem trail_exc {b f : Bool} {w t : List Nat} (h0 : 0 < w.length) (hw : w.length ≤ 1000) (ht : t.length ≤ 1000) (hi : ∃ c ∈ t, c ∉ w) : F_trail [mD b f, .str w, .str t] = .exc 0 := by
  have s1 := steps_exc (b := b) (f := f) h0 hw ht hi
  simp [Out.need, Res.need, oEq, oNe, oIn, oNi, DL.kName, DL.kTup, DL.kCons, DL.kNil, compOne, hName, hTup, hCons, hNil, big, noBox, F_trail, runX, x_trail, s1]
end Lw
namespace Lw
open PySem L2 DL
/-! ### is_wheel, are_texts, the readers -/
theorem bools_mapB {α : Type} (p : α → Bool) (l : List α) : bools (l.map fun a => D.bool (p a)) = some (l.map p) := by
  induction l with
  | nil => rfl
  | cons a l ih =>
    rw [List.map_cons]
    unfold bools
    rw [ih]
    rfl
theorem cAll_map {α : Type} (p : α → Bool) (l : List α) : cAll [.list (l.map fun a => D.bool (p a))] = .ok (.bool (l.all p)) := by
  unfold cAll
  simp only [bools_mapB]
  congr 2
  rw [List.all_map]
  rfl
def isW (l : List Nat) : Bool := decide (1 ≤ l.length) && (decide (l.length ≤ 8) && ((l.all fun c => decide (c ∈ abc)) && decide (l.Nodup)))
theorem dd_full : ∀ l : List Nat, (dd l).length = l.length → l.Nodup
  | [], _ => List.nodup_nil
  | c :: l, h => by
    have hl := dd_len l
    unfold dd at h
    split at h
    · rw [List.length_cons] at h
      omega
    · rename_i hc
      rw [List.length_cons, List.length_cons] at h
      exact List.nodup_cons.mpr ⟨fun z => hc (mem_dd.mpr z), dd_full l (by omega)⟩
theorem dd_nodup_len (l : List Nat) : decide (((dd l).length : Int) = (l.length : Int)) = decide l.Nodup := by
  rw [decide_eq_decide]
  constructor
  · intro h
    exact dd_full l (by omega)
  · intro h
    have p : (dd l).Perm l := (List.perm_ext_iff_of_nodup (nodup_dd l) h).mpr fun x => mem_dd
    rw [p.length_eq]
theorem is_wheel_ok {l : List Nat} (hl : l.length ≤ 1000) : F_is_wheel [.str l] = .ok (.bool (isW l)) := by
  have hb : l.length ≤ 1000000 := by omega
  unfold isW
  by_cases h1 : 1 ≤ l.length
  · by_cases h8 : l.length ≤ 8
    · have e1 : l_is_wheel_1 [some (.str l), none] = .ok (.list (l.map fun c => D.bool (decide (c ∈ abc)))) := by
        refine lc_map (fun c => D.str [c]) _ l rfl (by unfold big; omega) fun c hc => ?_
        simp [Out.need, Res.need, oEq, oNe, oIn, oNi, DL.kName, DL.kTup, DL.kCons, DL.kNil, compOne, hName, hTup, hCons, hNil, big, noBox, lit_abc]
      have s1 : cLenSet (.str l) = .ok (.int ((dd l).length : Nat)) := need_ok (by omega) _
      have c1 := cAll_map (fun c => decide (c ∈ abc)) l
      have z1 : (1 : Int) ≤ (l.length : Int) := by omega
      have z8 : (l.length : Int) ≤ 8 := by omega
      have dn := dd_nodup_len l
      rw [decide_eq_true h1, decide_eq_true h8, Bool.true_and, Bool.true_and, ← dn]
      generalize l.map (fun c => D.bool (decide (c ∈ abc))) = L at *
      generalize l.all (fun c => decide (c ∈ abc)) = q at *
      cases q <;> simp [Out.need, Res.need, oEq, oNe, oIn, oNi, DL.kName, DL.kTup, DL.kCons, DL.kNil, compOne, hName, hTup, hCons, hNil, big, noBox, F_is_wheel, runX, x_is_wheel, isOf, dIsi, tyR, isT, hb, e1, s1, c1, z1, z8]
    · have z1 : (1 : Int) ≤ (l.length : Int) := by omega
      have z8 : ¬ (l.length : Int) ≤ 8 := by omega
      rw [decide_eq_true h1, decide_eq_false h8]
      simp [Out.need, Res.need, oEq, oNe, oIn, oNi, DL.kName, DL.kTup, DL.kCons, DL.kNil, compOne, hName, hTup, hCons, hNil, big, noBox, F_is_wheel, runX, x_is_wheel, isOf, dIsi, tyR, isT, hb, z1, z8]
  · have z1 : ¬ (1 : Int) ≤ (l.length : Int) := by omega
    rw [decide_eq_false h1]
    simp [Out.need, Res.need, oEq, oNe, oIn, oNi, DL.kName, DL.kTup, DL.kCons, DL.kNil, compOne, hName, hTup, hCons, hNil, big, noBox, F_is_wheel, runX, x_is_wheel, isOf, dIsi, tyR, isT, hb, z1]
def isTx (w t : List Nat) : Bool := decide (t.length ≤ 30) && t.all fun c => decide (c ∈ w)
theorem is_text_ok {w t : List Nat} (hl : t.length ≤ 1000) : F_is_text [.str w, .str t] = .ok (.bool (isTx w t)) := by
  have hb : t.length ≤ 1000000 := by omega
  unfold isTx
  have e1 : l_is_text_1 [some (.str w), some (.str t), none] = .ok (.list (t.map fun c => D.bool (decide (c ∈ w)))) := by
    refine lc_map (fun c => D.str [c]) _ t rfl (by unfold big; omega) fun c hc => ?_
    simp [Out.need, Res.need, oEq, oNe, oIn, oNi, DL.kName, DL.kTup, DL.kCons, DL.kNil, compOne, hName, hTup, hCons, hNil, big, noBox]
  have c1 := cAll_map (fun c => decide (c ∈ w)) t
  generalize t.map (fun c => D.bool (decide (c ∈ w))) = L at *
  generalize t.all (fun c => decide (c ∈ w)) = q at *
  by_cases h : t.length ≤ 30
  · have z : (t.length : Int) ≤ 30 := by omega
    simp [Out.need, Res.need, oEq, oNe, oIn, oNi, DL.kName, DL.kTup, DL.kCons, DL.kNil, compOne, hName, hTup, hCons, hNil, big, noBox, F_is_text, runX, x_is_text, isOf, dIsi, tyR, isT, hb, e1, c1, z, h]
  · have z : ¬ (t.length : Int) ≤ 30 := by omega
    simp [Out.need, Res.need, oEq, oNe, oIn, oNi, DL.kName, DL.kTup, DL.kCons, DL.kNil, compOne, hName, hTup, hCons, hNil, big, noBox, F_is_text, runX, x_is_text, isOf, dIsi, tyR, isT, hb, z, h]
def areT (w : List Nat) (ts : List (List Nat)) : Bool := decide (ts.length ≤ 6) && ts.all (isTx w)
theorem are_texts_ok {w : List Nat} {ts : List (List Nat)} (ht : ∀ t ∈ ts, t.length ≤ 1000) (hl : ts.length ≤ 100000) : F_are_texts [.str w, tsD ts] = .ok (.bool (areT w ts)) := by
  unfold areT
  have e1 : l_are_texts_1 [some (.str w), some (tsD ts), none] = .ok (.list (ts.map fun t => D.bool (isTx w t))) := by
    refine lc_map D.str _ ts rfl (by unfold big; omega) fun t h => ?_
    have g := is_text_ok (w := w) (ht t h)
    simp [Out.need, Res.need, oEq, oNe, oIn, oNi, DL.kName, DL.kTup, DL.kCons, DL.kNil, compOne, hName, hTup, hCons, hNil, big, noBox, g]
  have c1 := cAll_map (isTx w) ts
  have e2 : cLen [tsD ts] = .ok (.int ts.length) := by unfold tsD; rw [cLen_t, List.length_map]
  have e3 : tyR (tsD ts) = .ok "tuple" := rfl
  generalize ts.map (fun t => D.bool (isTx w t)) = L at *
  generalize ts.all (isTx w) = q at *
  generalize tsD ts = T at *
  by_cases h : ts.length ≤ 6
  · have z : (ts.length : Int) ≤ 6 := by omega
    simp [Out.need, Res.need, oEq, oNe, oIn, oNi, DL.kName, DL.kTup, DL.kCons, DL.kNil, compOne, hName, hTup, hCons, hNil, big, noBox, F_are_texts, runX, x_are_texts, isOf, dIsi, isT, e1, e2, e3, c1, z, h]
  · have z : ¬ (ts.length : Int) ≤ 6 := by omega
    simp [Out.need, Res.need, oEq, oNe, oIn, oNi, DL.kName, DL.kTup, DL.kCons, DL.kNil, compOne, hName, hTup, hCons, hNil, big, noBox, F_are_texts, runX, x_are_texts, isOf, dIsi, isT, e2, e3, z, h]
/-! read_wheel -/
def rdW (t : List Nat) : Option (Bool × Bool × List Nat) := match cutsAt 32 [] t with
  | [a, c, w] => if isW w = true ∧ wtL (decide (a = cBoth)) (decide (c = cFull)) w = t then some (decide (a = cBoth), decide (c = cFull), w) else none
  | _ => none
def resW (o : Option (Bool × Bool × List Nat)) : Res D := match o with
  | some (b, f, w) => .ok (.tuple [mD b f, .str w])
  | none => .exc 4
theorem read_wheel_ok {t : List Nat} (hl : t.length ≤ 1000) : F_read_wheel [.str t] = resW (rdW t) := by
  have hb : t.length ≤ 100000 := by omega
  have hk := cuts_mem 32 t []
  have i1 : immAll ((cutsAt 32 [] t).map D.str) = true := imm_map _ _ fun _ => rfl
  have m1 : F_must [.bool false] = .exc 4 := must_f
  have m2 : F_must [.bool true] = .ok .none := must_t
  unfold rdW
  match hc : cutsAt 32 [] t, hk with
  | [], _ => exact absurd hc (cuts_ne _ _ _)
  | [a], _ => simp [Out.need, Res.need, oEq, oNe, oIn, oNi, DL.kName, DL.kTup, DL.kCons, DL.kNil, compOne, hName, hTup, hCons, hNil, big, noBox, F_read_wheel, runX, x_read_wheel, lit_sp, hb, hc, m1, resW]
  | [a, c], _ => simp [Out.need, Res.need, oEq, oNe, oIn, oNi, DL.kName, DL.kTup, DL.kCons, DL.kNil, compOne, hName, hTup, hCons, hNil, big, noBox, F_read_wheel, runX, x_read_wheel, lit_sp, hb, hc, m1, resW]
  | [a, c, w], hk =>
    have lw : w.length ≤ 1000 := by have := (hk w (by simp)).2; simp at this; omega
    have g := is_wheel_ok lw
    have g2 := wheel_text_ok (b := decide (a = cBoth)) (f := decide (c = cFull)) lw
    unfold mD at g2
    cases q : isW w with
    | false =>
      rw [q] at g
      simp [Out.need, Res.need, oEq, oNe, oIn, oNi, DL.kName, DL.kTup, DL.kCons, DL.kNil, compOne, hName, hTup, hCons, hNil, big, noBox, F_read_wheel, runX, x_read_wheel, lit_sp, hb, hc, g, m1, resW, q, atI_0, atI_1, atI_2]
    | true =>
      rw [q] at g
      by_cases e : wtL (decide (a = cBoth)) (decide (c = cFull)) w = t
      · rw [e] at g2
        have hz : isW w = true ∧ wtL (decide (a = cBoth)) (decide (c = cFull)) w = t := ⟨q, e⟩
        simp only [hz, and_self, if_true]
        simp [Out.need, Res.need, oEq, oNe, oIn, oNi, DL.kName, DL.kTup, DL.kCons, DL.kNil, compOne, hName, hTup, hCons, hNil, big, noBox, F_read_wheel, runX, x_read_wheel, lit_sp, lit_both, lit_full, hb, hc, g, g2, m2, resW, atI_0, atI_1, atI_2, mD]
      · have hz : ¬ (true = true ∧ wtL (decide (a = cBoth)) (decide (c = cFull)) w = t) := fun z => e z.2
        simp only [hz, if_false]
        simp [Out.need, Res.need, oEq, oNe, oIn, oNi, DL.kName, DL.kTup, DL.kCons, DL.kNil, compOne, hName, hTup, hCons, hNil, big, noBox, F_read_wheel, runX, x_read_wheel, lit_sp, lit_both, lit_full, hb, hc, g, g2, m1, m2, resW, atI_0, atI_1, atI_2, mD, e]
  | a :: c :: w :: d :: r, _ =>
    have z : ¬ ((r.length : Int) + 1 + 1 + 1 + 1 = 3) := by omega
    have ir := imm_strs r
    simp [Out.need, Res.need, oEq, oNe, oIn, oNi, DL.kName, DL.kTup, DL.kCons, DL.kNil, compOne, hName, hTup, hCons, hNil, big, noBox, ir, F_read_wheel, runX, x_read_wheel, lit_sp, hb, hc, m1, resW, z]
/-! read_texts -/
def rdT (w t : List Nat) : Option (List (List Nat)) :=
  let ts := ((cutsAt 10 [] t).dropLast).map (·.drop 1)
  if areT w ts = true ∧ ttL ts = t then some ts else none
def resT (o : Option (List (List Nat))) : Res D := match o with
  | some ts => .ok (tsD ts)
  | none => .exc 4
theorem cut_dl {α : Type} {l : List α} (h : l ≠ []) : cutL l none (some (-1)) = l.dropLast := by
  have := cut_last l.dropLast (l.getLast h)
  rw [List.dropLast_concat_getLast] at this
  exact this
theorem cut_one (t : List Nat) : cutL t (some 1) none = t.drop 1 := by
  cases t with
  | nil => rfl
  | cons c t => exact cut_from (c :: t) 1 (by simp)
theorem read_texts_ok {w t : List Nat} (hl : t.length ≤ 400) : F_read_texts [.str w, .str t] = resT (rdT w t) := by
  have hb : t.length ≤ 100000 := by omega
  have hb2 : t.length ≤ 1000000 := by omega
  have hk := cuts_mem 10 t []
  have hn := cuts_ne 10 t []
  have hcl := cuts_len 10 t []
  unfold rdT
  have e1 : l_read_texts_1 [some (.str w), some (.str t), none, none] = .ok (.list ((((cutsAt 10 [] t).dropLast).map (·.drop 1)).map D.str)) := by
    rw [List.map_map]
    refine lc_map D.str _ ((cutsAt 10 [] t).dropLast) ?_ (by rw [List.length_dropLast]; unfold big; omega) fun y hy => ?_
    · have hm : (cutsAt 10 [] t).map D.str ≠ [] := fun z => hn (List.map_eq_nil_iff.mp z)
      have := cut_dl hm
      rw [← List.map_dropLast] at this
      simp [Out.need, Res.need, oEq, oNe, oIn, oNi, DL.kName, DL.kTup, DL.kCons, DL.kNil, compOne, hName, hTup, hCons, hNil, big, noBox, lit_nl, hb, this]
    · have h1 := (hk y (List.dropLast_subset _ hy)).2
      simp only [List.length_nil] at h1
      have h2 : y.length ≤ 1000000 := by omega
      have h3 := cut_one y
      simp [Out.need, Res.need, oEq, oNe, oIn, oNi, DL.kName, DL.kTup, DL.kCons, DL.kNil, compOne, hName, hTup, hCons, hNil, big, noBox, h2, h3]
  have hts : ∀ u ∈ ((cutsAt 10 [] t).dropLast).map (·.drop 1), u.length ≤ 1000 := by
    intro u hu
    obtain ⟨y, hy, rfl⟩ := List.mem_map.mp hu
    have h1 := (hk y (List.dropLast_subset _ hy)).2
    simp only [List.length_nil] at h1
    rw [List.length_drop]
    omega
  have hts2 : (((cutsAt 10 [] t).dropLast).map (·.drop 1)).length ≤ 500 := by
    rw [List.length_map, List.length_dropLast]
    omega
  generalize ((cutsAt 10 [] t).dropLast).map (·.drop 1) = ts at *
  have a1 := are_texts_ok (w := w) hts (by omega)
  have a2 := texts_text_ok hts hts2
  have i1 := imm_tsD ts
  have i2 := calm_of i1
  have m1 : F_must [.bool false] = .exc 4 := must_f
  have m2 : F_must [.bool true] = .ok .none := must_t
  have tt : cTuple [.list (ts.map D.str)] = .ok (tsD ts) := rfl
  have nb : noBox (.ok (tsD ts)) = .ok (tsD ts) := rfl
  have nb2 : isBox (tsD ts) = false := rfl
  show _ = resT (if areT w ts = true ∧ ttL ts = t then some ts else none)
  generalize ts.map D.str = L at *
  cases q : areT w ts with
  | false =>
    rw [q] at a1
    generalize tsD ts = T at *
    simp [Out.need, Res.need, oEq, oNe, oIn, oNi, DL.kName, DL.kTup, DL.kCons, DL.kNil, compOne, hName, hTup, hCons, hNil, big, noBox, F_read_texts, runX, x_read_texts, e1, a1, m1, tt, i1, i2, resT]
  | true =>
    rw [q] at a1
    by_cases e : ttL ts = t
    · rw [e] at a2
      simp only [e, and_self, if_true, resT]
      generalize tsD ts = T at *
      simp [Out.need, Res.need, oEq, oNe, oIn, oNi, DL.kName, DL.kTup, DL.kCons, DL.kNil, compOne, hName, hTup, hCons, hNil, big, noBox, F_read_texts, runX, x_read_texts, e1, a1, a2, m2, tt, i1, i2, nb, nb2]
    · have hz : ¬ (true = true ∧ ttL ts = t) := fun z => e z.2
      simp only [hz, if_false, resT]
      generalize tsD ts = T at *
      simp [Out.need, Res.need, oEq, oNe, oIn, oNi, DL.kName, DL.kTup, DL.kCons, DL.kNil, compOne, hName, hTup, hCons, hNil, big, noBox, F_read_texts, runX, x_read_texts, e1, a1, a2, m1, tt, i1, i2, e]
/-! read_trail -/
def prIn (y : List Nat) : Option (Nat × Nat) := match y with
  | [] => none
  | c :: r => if c ∈ abc then (digs r).map fun n => (c, n) else none
theorem digs_small {l : List Nat} {n : Nat} (h : digs l = some n) : n < 100 := by
  unfold digs at h
  split at h
  · split at h
    · cases h; omega
    · cases h
  · split at h
    · cases h; omega
    · cases h
  · cases h
theorem prIn_small {y : List Nat} {p : Nat × Nat} (h : prIn y = some p) : p.2 < 100 ∧ p.1 ∈ abc := by
  unfold prIn at h
  split at h
  · cases h
  · rename_i c r
    split at h
    · rename_i hc
      cases q : digs r with
      | none => rw [q] at h; cases h
      | some n => rw [q] at h; cases h; exact ⟨digs_small q, hc⟩
    · cases h
def resP (o : Option (Nat × Nat)) : Res D := match o with
  | some p => .ok (.tuple [.str [p.1], .int (p.2 : Int)])
  | none => .exc 4
theorem digs_len {l : List Nat} (h : (1 ≤ l.length ∧ l.length ≤ 2) ∧ ∀ c ∈ l, c ∈ figs) : ∃ n, digs l = some n := by
  obtain ⟨⟨h1, h2⟩, h3⟩ := h
  match l, h1, h2, h3 with
  | [a], _, _, h3 =>
    have := mem_figs.mp (h3 a (by simp))
    exact ⟨_, if_pos this⟩
  | [a, b], _, _, h3 =>
    have ha := mem_figs.mp (h3 a (by simp))
    have hb := mem_figs.mp (h3 b (by simp))
    exact ⟨_, if_pos ⟨ha, hb⟩⟩
theorem digs_none {l : List Nat} (h : ¬ ((1 ≤ l.length ∧ l.length ≤ 2) ∧ ∀ c ∈ l, c ∈ figs)) : digs l = none := by
  unfold digs
  split
  · rename_i a
    refine if_neg fun z => h ⟨by simp, fun c hc => ?_⟩
    have : c = a := by simpa using hc
    subst this
    exact mem_figs.mpr z
  · rename_i a b
    refine if_neg fun z => h ⟨by simp, fun c hc => ?_⟩
    have : c = a ∨ c = b := by simpa using hc
    rcases this with rfl | rfl
    · exact mem_figs.mpr z.1
    · exact mem_figs.mpr z.2
  · rfl
theorem pair_in_ok {y : List Nat} (hl : y.length ≤ 1000) : F_pair_in [.str y] = resP (prIn y) := by
  have hb : y.length ≤ 1000000 := by omega
  have m1 : F_must [.bool false] = .exc 4 := must_f
  have m2 : F_must [.bool true] = .ok .none := must_t
  cases y with
  | nil => simp [Out.need, Res.need, oEq, oNe, oIn, oNi, DL.kName, DL.kTup, DL.kCons, DL.kNil, compOne, hName, hTup, hCons, hNil, big, noBox, F_pair_in, runX, x_pair_in, m1, prIn, resP]
  | cons c r =>
    have e1 : l_pair_in_1 [some (.str (c :: r)), none] = .ok (.list (r.map fun c => D.bool (decide (c ∈ figs)))) := by
      refine lc_map (fun c => D.str [c]) _ r ?_ (by simp at hl; unfold big; omega) fun c hc => ?_
      · have := cut_one (c :: r)
        simp only [List.drop_succ_cons, List.drop_zero] at this
        simp only [List.length_cons] at hb
        simp [Out.need, Res.need, oEq, oNe, oIn, oNi, DL.kName, DL.kTup, DL.kCons, DL.kNil, compOne, hName, hTup, hCons, hNil, big, noBox, this, hb]
      · simp [Out.need, Res.need, oEq, oNe, oIn, oNi, DL.kName, DL.kTup, DL.kCons, DL.kNil, compOne, hName, hTup, hCons, hNil, big, noBox, lit_figs]
    have c1 := cAll_map (fun c => decide (c ∈ figs)) r
    have h3 := cut_one (c :: r)
    simp only [List.drop_succ_cons, List.drop_zero] at h3
    simp only [List.length_cons] at hb
    have ha := atI_0 c r
    by_cases h2 : 1 ≤ r.length ∧ r.length ≤ 2
    · have z1 : (2 : Int) ≤ (r.length : Int) + 1 := by omega
      have z2 : (r.length : Int) + 1 ≤ 3 := by omega
      by_cases hc : c ∈ abc
      · by_cases hf : ∀ c ∈ r, c ∈ figs
        · obtain ⟨n, hn⟩ := digs_len ⟨h2, hf⟩
          have q1 : (r.all fun c => decide (c ∈ figs)) = true := by rw [List.all_eq_true]; exact fun x hx => decide_eq_true (hf x hx)
          rw [q1] at c1
          generalize r.map (fun c => D.bool (decide (c ∈ figs))) = L at *
          have ci : cIntS [.str r] = .ok (.int (n : Int)) := by unfold cIntS; simp only [hn]
          simp [Out.need, Res.need, oEq, oNe, oIn, oNi, DL.kName, DL.kTup, DL.kCons, DL.kNil, compOne, hName, hTup, hCons, hNil, big, noBox, F_pair_in, runX, x_pair_in, m2, prIn, resP, e1, c1, ha, h3, hb, z1, z2, lit_abc, hc, hn, ci]
        · have hn := digs_none (l := r) fun z => hf z.2
          have q1 : (r.all fun c => decide (c ∈ figs)) = false := by
            rw [List.all_eq_false]
            obtain ⟨x, hx⟩ := Classical.not_forall.mp hf
            obtain ⟨hx1, hx2⟩ := Classical.not_imp.mp hx
            exact ⟨x, hx1, by simpa using hx2⟩
          rw [q1] at c1
          generalize r.map (fun c => D.bool (decide (c ∈ figs))) = L at *
          simp [Out.need, Res.need, oEq, oNe, oIn, oNi, DL.kName, DL.kTup, DL.kCons, DL.kNil, compOne, hName, hTup, hCons, hNil, big, noBox, F_pair_in, runX, x_pair_in, m1, prIn, resP, e1, c1, ha, h3, hb, z1, z2, lit_abc, hc, hn]
      · simp [Out.need, Res.need, oEq, oNe, oIn, oNi, DL.kName, DL.kTup, DL.kCons, DL.kNil, compOne, hName, hTup, hCons, hNil, big, noBox, F_pair_in, runX, x_pair_in, m1, prIn, resP, ha, h3, hb, z1, z2, lit_abc, hc]
    · have hn := digs_none (l := r) fun z => h2 z.1
      have e : prIn (c :: r) = none := by
        unfold prIn
        simp [hn]
      rw [e]
      by_cases z1 : (2 : Int) ≤ (r.length : Int) + 1
      · have z2 : ¬ (r.length : Int) + 1 ≤ 3 := by omega
        simp [Out.need, Res.need, oEq, oNe, oIn, oNi, DL.kName, DL.kTup, DL.kCons, DL.kNil, compOne, hName, hTup, hCons, hNil, big, noBox, F_pair_in, runX, x_pair_in, m1, resP, hb, z1, z2]
      · simp [Out.need, Res.need, oEq, oNe, oIn, oNi, DL.kName, DL.kTup, DL.kCons, DL.kNil, compOne, hName, hTup, hCons, hNil, big, noBox, F_pair_in, runX, x_pair_in, m1, resP, hb, z1]
/-- all pairs, or the first that is none -/
def prsIn : List (List Nat) → Option (List (Nat × Nat))
  | [] => some []
  | y :: ys => match prIn y with
    | some p => (prsIn ys).map (p :: ·)
    | none => none
theorem prsIn_cases : ∀ ys : List (List Nat), (∃ ps, prsIn ys = some ps ∧ ps.length = ys.length ∧ ∀ y ∈ ys, ∃ p, prIn y = some p) ∨ (prsIn ys = none ∧ ∃ l b r, ys = l ++ b :: r ∧ prIn b = none ∧ ∀ y ∈ l, ∃ p, prIn y = some p)
  | [] => .inl ⟨[], rfl, rfl, fun _ h => by cases h⟩
  | y :: ys => by
    cases q : prIn y with
    | none => exact .inr ⟨by simp [prsIn, q], [], y, ys, rfl, q, fun _ h => by cases h⟩
    | some p =>
      rcases prsIn_cases ys with ⟨ps, h1, h2, h3⟩ | ⟨h1, l, b, r, h2, h3, h4⟩
      · refine .inl ⟨p :: ps, by simp [prsIn, q, h1], by simp [h2], fun z hz => ?_⟩
        rcases List.mem_cons.mp hz with e | e
        · subst e; exact ⟨p, q⟩
        · exact h3 z e
      · refine .inr ⟨by simp [prsIn, q, h1], y :: l, b, r, by rw [h2]; rfl, h3, fun z hz => ?_⟩
        rcases List.mem_cons.mp hz with e | e
        · subst e; exact ⟨p, q⟩
        · exact h4 z e
theorem prsIn_map : ∀ {ys : List (List Nat)} {ps : List (Nat × Nat)}, prsIn ys = some ps → ys.map prIn = ps.map some
  | [], ps, h => by cases h; rfl
  | y :: ys, ps, h => by
    unfold prsIn at h
    cases q : prIn y with
    | none => rw [q] at h; cases h
    | some p =>
      rw [q] at h
      cases r : prsIn ys with
      | none => rw [r] at h; cases h
      | some qs =>
        rw [r] at h
        cases h
        rw [List.map_cons, List.map_cons, q, prsIn_map r]
theorem prsIn_small {ys : List (List Nat)} {ps : List (Nat × Nat)} (h : prsIn ys = some ps) : ∀ p ∈ ps, p.2 < 100 ∧ p.1 ∈ abc := by
  intro p hp
  have e := prsIn_map h
  have : some p ∈ ys.map prIn := by rw [e]; exact List.mem_map_of_mem hp
  obtain ⟨y, _, hy⟩ := List.mem_map.mp this
  exact prIn_small hy
def rdR (t : List Nat) : Option (List (Nat × Nat)) := if t = [] then some [] else match prsIn (cutsAt 32 [] t) with
  | some ps => if trL ps = t then some ps else none
  | none => none
def resR (o : Option (List (Nat × Nat))) : Res D := match o with
  | some ps => .ok (.tuple [.str (ps.map (·.1)), nsD ps])
  | none => .exc 4
def pairI (p : Nat × Nat) : D := .tuple [.str [p.1], .int (p.2 : Int)]
theorem read_trail_tail {t : List Nat} {ps : List (Nat × Nat)} (hn : ∀ p ∈ ps, p.2 < 100) (hl : ps.length ≤ 1000) :
    xSeq (xSet 3 (dTup (dCons (dM mJoin (dC (.str (Str.ofString "").cps.toList)) l_read_trail_1) (dCons (fun δ => ((dCons l_read_trail_2 dNil) δ).bind cTuple) dNil))))
    (xSeq (xDrop (dCall 1 F_must (dCons (d2 oEq (dCall 2 F_trail_text (dCons (d2 oIx (dVar 3) (dC (.int 0))) (dCons (d2 oIx (dVar 3) (dC (.int 1))) dNil))) (dVar 0)) dNil)))
    (xRet (fun δ => noBox (dVar 3 δ)))) [some (.fz (.str t)), some (.fz (.list (ps.map pairI))), none, none, none] = (if trL ps = t then .rt (.tuple [.str (ps.map (·.1)), nsD ps]) else .ex 4 [some (.fz (.str t)), some (.fz (.list (ps.map pairI))), none, some (.fz (.tuple [.str (ps.map (·.1)), nsD ps])), none]) := by
  have e1 : l_read_trail_1 [some (.str t), some (.list (ps.map pairI)), none, none, none] = .ok (.list ((ps.map fun p => [p.1]).map D.str)) := by
    rw [List.map_map]
    refine lc_map pairI _ ps rfl (by unfold big; omega) fun p h => ?_
    simp [Out.need, Res.need, oEq, oNe, oIn, oNi, DL.kName, DL.kTup, DL.kCons, DL.kNil, compOne, hName, hTup, hCons, hNil, big, noBox, pairI, atI_0]
  have e2 : l_read_trail_2 [some (.str t), some (.list (ps.map pairI)), none, none, none] = .ok (.list (ps.map fun p => D.int (p.2 : Int))) := by
    refine lc_map pairI _ ps rfl (by unfold big; omega) fun p h => ?_
    simp [Out.need, Res.need, oEq, oNe, oIn, oNi, DL.kName, DL.kTup, DL.kCons, DL.kNil, compOne, hName, hTup, hCons, hNil, big, noBox, pairI, atI_1]
  have j1 : mJoin [] (.list ((ps.map fun p => [p.1]).map D.str)) = .ok (.str (ps.map (·.1))) := by
    have e : (ps.map fun p => [p.1]) = (ps.map (·.1)).map fun c => [c] := by rw [List.map_map]; rfl
    rw [e, mJoin_l, need_ok (by rw [sum_ones]; simp; omega), join_nil, flat_signs]
  have t1 : cTuple [.list (ps.map fun p => D.int (p.2 : Int))] = .ok (nsD ps) := rfl
  have i1 : imm (nsD ps) = true := imm_map _ _ fun _ => rfl
  have i2 := calm_of i1
  have g := trail_text_ok hn hl
  have o1 : ofO (some (nsD ps)) = .ok (nsD ps) := rfl
  have m1 : F_must [.bool false] = .exc 4 := must_f
  have m2 : F_must [.bool true] = .ok .none := must_t
  generalize nsD ps = T at *
  generalize (ps.map fun p => [p.1]).map D.str = L1 at *
  generalize ps.map (fun p => D.int (p.2 : Int)) = L2 at *
  generalize ps.map (·.1) = u at *
  generalize ps.map pairI = PL at *
  by_cases e : trL ps = t
  · rw [e] at g
    rw [if_pos e]
    simp [Out.need, Res.need, oEq, oNe, oIn, oNi, DL.kName, DL.kTup, DL.kCons, DL.kNil, compOne, hName, hTup, hCons, hNil, big, noBox, lit_0, e1, e2, j1, t1, i1, i2, g, m2, atI_0, atI_1, o1]
  · rw [if_neg e]
    simp [Out.need, Res.need, oEq, oNe, oIn, oNi, DL.kName, DL.kTup, DL.kCons, DL.kNil, compOne, hName, hTup, hCons, hNil, big, noBox, lit_0, e1, e2, j1, t1, i1, i2, g, m1, atI_0, atI_1, e, o1]
theorem read_trail_ok {t : List Nat} (hl : t.length ≤ 900) : F_read_trail [.str t] = resR (rdR t) := by
  have hb : t.length ≤ 100000 := by omega
  have hb2 : t.length ≤ 1000000 := by omega
  have hk := cuts_mem 32 t []
  have hcl := cuts_len 32 t []
  unfold rdR
  by_cases ht : t = []
  · subst ht
    have g := read_trail_tail (t := []) (ps := []) (fun _ h => by cases h) (by simp)
    have e : trL [] = [] := rfl
    rw [if_pos e] at g
    rw [if_pos rfl]
    simp only [F_read_trail, runX, x_read_trail]
    rw [if_pos (show [D.str []].length = 1 from rfl)]
    rw [show ∀ a b : XS, ∀ ε, xSeq a b ε = (match a ε with | .nx ε' => b ε' | o => o) from fun _ _ _ => rfl]
    have s1 : xSet 1 (dIf (dT (dVar 0)) l_read_trail_3 (dLst dNil)) (startE 5 [D.str []]) = .nx [some (.fz (.str [])), some (.fz (.list (([] : List (Nat × Nat)).map pairI))), none, none, none] := by
      simp [Out.need, Res.need, oEq, oNe, oIn, oNi, DL.kName, DL.kTup, DL.kCons, DL.kNil, compOne, hName, hTup, hCons, hNil, big, noBox]
    rw [s1]
    simp only
    rw [g]
    rfl
  · rw [if_neg ht]
    have hne : t.isEmpty = false := by cases t <;> simp at ht ⊢
    simp only [F_read_trail, runX, x_read_trail]
    rw [if_pos (show [D.str t].length = 1 from rfl)]
    rw [show ∀ a b : XS, ∀ ε, xSeq a b ε = (match a ε with | .nx ε' => b ε' | o => o) from fun _ _ _ => rfl]
    rcases prsIn_cases (cutsAt 32 [] t) with ⟨ps, h1, h2, h3⟩ | ⟨h1, l, b, r, h2, h3, h4⟩
    · have e1 : l_read_trail_3 [some (.str t), none, none, none, none] = .ok (.list (ps.map pairI)) := by
        have e : ps.map pairI = (cutsAt 32 [] t).map fun y => pairI ((prIn y).getD (0, 0)) := by
          have := congrArg (List.map fun o : Option (Nat × Nat) => pairI (o.getD (0, 0))) (prsIn_map h1)
          rw [List.map_map, List.map_map] at this
          exact this.symm
        rw [e]
        refine lcx_map D.str _ (cutsAt 32 [] t) (by simp [Out.need, Res.need, oEq, oNe, oIn, oNi, DL.kName, DL.kTup, DL.kCons, DL.kNil, compOne, hName, hTup, hCons, hNil, big, noBox, lit_sp, hb]) (by unfold big; omega) fun y hy => ?_
        obtain ⟨p, hp⟩ := h3 y hy
        have hy2 := (hk y hy).2
        simp only [List.length_nil] at hy2
        have g := pair_in_ok (y := y) (by omega)
        rw [hp] at g
        simp [Out.need, Res.need, oEq, oNe, oIn, oNi, DL.kName, DL.kTup, DL.kCons, DL.kNil, compOne, hName, hTup, hCons, hNil, big, noBox, g, resP, hp, pairI]
      have i1 : immAll (ps.map pairI) = true := imm_map _ _ fun _ => rfl
      have s1 : xSet 1 (dIf (dT (dVar 0)) l_read_trail_3 (dLst dNil)) (startE 5 [D.str t]) = .nx [some (.fz (.str t)), some (.fz (.list (ps.map pairI))), none, none, none] := by
        generalize ps.map pairI = PL at *
        simp [Out.need, Res.need, oEq, oNe, oIn, oNi, DL.kName, DL.kTup, DL.kCons, DL.kNil, compOne, hName, hTup, hCons, hNil, big, noBox, hb2, hne, e1, i1, List.replicate]
      rw [s1]
      simp only
      rw [read_trail_tail (fun p hp => (prsIn_small h1 p hp).1) (by omega), h1]
      show Out.res (if trL ps = t then _ else _) = resR (if trL ps = t then some ps else none)
      split <;> rfl
    · have e1 : l_read_trail_3 [some (.str t), none, none, none, none] = .exc 4 := by
        refine lcx_exc D.str (fun y => pairI ((prIn y).getD (0, 0))) l r b (by rw [← h2]; simp [Out.need, Res.need, oEq, oNe, oIn, oNi, DL.kName, DL.kTup, DL.kCons, DL.kNil, compOne, hName, hTup, hCons, hNil, big, noBox, lit_sp, hb]) (by rw [← h2]; unfold big; omega) (fun y hy => ?_) ?_
        · obtain ⟨p, hp⟩ := h4 y hy
          have hy2 := (hk y (by rw [h2]; exact List.mem_append_left _ hy)).2
          simp only [List.length_nil] at hy2
          have g := pair_in_ok (y := y) (by omega)
          rw [hp] at g
          simp [Out.need, Res.need, oEq, oNe, oIn, oNi, DL.kName, DL.kTup, DL.kCons, DL.kNil, compOne, hName, hTup, hCons, hNil, big, noBox, g, resP, hp, pairI]
        · have hy2 := (hk b (by rw [h2]; simp)).2
          simp only [List.length_nil] at hy2
          have g := pair_in_ok (y := b) (by omega)
          rw [h3] at g
          simp [Out.need, Res.need, oEq, oNe, oIn, oNi, DL.kName, DL.kTup, DL.kCons, DL.kNil, compOne, hName, hTup, hCons, hNil, big, noBox, g, resP, calmly, bYes]
      have s1 : ∃ ε, xSet 1 (dIf (dT (dVar 0)) l_read_trail_3 (dLst dNil)) (startE 5 [D.str t]) = .ex 4 ε := by
        refine ⟨[some (.fz (.str t)), none, none, none, none], ?_⟩
        simp [Out.need, Res.need, oEq, oNe, oIn, oNi, DL.kName, DL.kTup, DL.kCons, DL.kNil, compOne, hName, hTup, hCons, hNil, big, noBox, hb2, hne, e1, List.replicate]
      obtain ⟨ε, s1⟩ := s1
      rw [s1, h1]
      rfl
end Lw
noncomputable section
namespace Lw
open PySem L2 DL
def x_law_odd (R : List D → Res D) : XS :=
  (xSeq (xWp [2] (xIf (bAnd (dT (dIsi ["tuple"] (dVar 0))) (bAnd (dB (d2 oNe (dVar 0) (dTup dNil))) (dB (d2 oGt (dCall 3 F_law_mix (dCons (dVar 1) (dCons (dC (.int 9781)) (dCons (dC (.int 5)) dNil)))) (dC (.int 0)))))) (xSeq (xSet 2 (dCall 3 F_law_mix (dCons (dVar 1) (dCons (dC (.int 9769)) (dCons (fun δ => ((dCons (dVar 0) dNil) δ).bind cLen) dNil)))))
    (xRet (d2 oAdd (d2 oAdd (dSl (dVar 0) dNoP (dPt (dVar 2))) (dTup (dCons (dCall 2 R (dCons (d2 oIx (dVar 0) (dVar 2)) (dCons (d2 oAdd (d2 oAdd (dVar 1) (d2 oMul (dC (.int 31)) (dVar 2))) (dC (.int 7))) dNil))) dNil))) (dSl (dVar 0) (dPt (d2 oAdd (dVar 2) (dC (.int 1)))) dNoP)))) xNext))
    (xSeq (xSet 3 (dLst (dCons (dC .none) (dCons (dC (.bool true)) (dCons (dC (.bool false)) (dCons (dC (.int 0)) (dCons (dC (.int 1)) (dCons (fun δ => ((dC (.int 1)) δ).bind oNeg) (dCons (dC (.int 2)) (dCons (dC (.int 7)) (dCons (dC (.int 10)) (dCons (dC (.int 1000)) (dCons (dC (.str (Str.ofString "").cps.toList)) (dCons (dC (.str (Str.ofString "a").cps.toList)) (dCons (dC (.str (Str.ofString "A").cps.toList)) (dCons (dTup dNil) (dCons (dTup (dCons (dC (.str (Str.ofString "a").cps.toList)) dNil)) (dCons (fun δ => fzR ((dLst (dCons (dC (.int 1)) dNil)) δ)) dNil))))))))))))))))))
    (xSeq (xIf (dT (dIsi ["tuple"] (dVar 0))) (xSet 3 (d2 oAdd (dVar 3) (d2 oMulL (dLst (dCons (fun δ => fzR ((fun δ => ((dCons (dVar 0) dNil) δ).bind cList) δ)) (dCons (d2 oAdd (dVar 0) (dSl (dVar 0) (dPt (fun δ => ((dC (.int 1)) δ).bind oNeg)) dNoP)) (dCons (dSl (dVar 0) dNoP (dPt (fun δ => ((dC (.int 1)) δ).bind oNeg))) (dCons (fun δ => ((dVar 0) δ).bind oRevA) (dCons (dSl (dVar 0) (dPt (dC (.int 1))) dNoP) (dCons (dTup (dCons (dVar 0) dNil)) dNil))))))) (dC (.int 2))))) (xIf (dT (dIsi ["str"] (dVar 0))) (xSet 3 (d2 oAdd (dVar 3) (d2 oMulL (dLst (dCons (d2 oAdd (dVar 0) (dC (.str (Str.ofString "a").cps.toList))) (dCons (dSl (dVar 0) dNoP (dPt (fun δ => ((dC (.int 1)) δ).bind oNeg))) (dCons (dUpper (dVar 0)) (dCons (d2 oAdd (dVar 0) (dC (.str (Str.ofString " ").cps.toList))) (dCons (d2 oMulS (dVar 0) (dC (.int 2))) (dCons (fun δ => fzR ((dLst (dCons (dVar 0) dNil)) δ)) (dCons (d2 oAdd (dVar 0) (dSl (dVar 0) dNoP (dPt (dC (.int 1))))) dNil)))))))) (dC (.int 2))))) (xIf (dT (dIsi ["int"] (dVar 0))) (xSet 3 (d2 oAdd (dVar 3) (d2 oMulL (dLst (dCons (d2 oAddB (dVar 0) (dC (.int 1))) (dCons (d2 oSubB (dVar 0) (dC (.int 1))) (dCons (d2 oSubI (dC (.int 0)) (dVar 0)) (dCons (dTup (dCons (dVar 0) dNil)) (dCons (d2 oAddB (dVar 0) (dC (.int 2))) (dCons (d2 oMulB (dVar 0) (dC (.int 2))) dNil))))))) (dC (.int 2))))) xNext)))
    (xRet (d2 oIx (dVar 3) (dCall 3 F_law_mix (dCons (dVar 1) (dCons (dC (.int 9749)) (dCons (fun δ => ((dCons (dVar 3) dNil) δ).bind cLen) dNil)))))))))
def Fr_law_odd : Nat → List D → Res D
  | 0 => fun _ => .stuck
  | n + 1 => runX 2 4 (x_law_odd (Fr_law_odd n))
def F_law_odd : List D → Res D := Fr_law_odd 6
def x_law_is_told : XS :=
  (xRet (dOrV (dAndV (d2 oIsB (dVar 0) (dC (.bool true))) (fun δ => noBox (dVar 1 δ))) (dAndV (d2 oIsB (dVar 0) (dC (.bool false))) (dNotV (dVar 1)))))
def F_law_is_told : List D → Res D := runX 2 2 x_law_is_told
def l_law_is_wheel_1 : Dv → Res D :=
  (dLc [2] (fun δ => ((dCons (fun δ => ((dCons (dVar 0) dNil) δ).bind cLen) dNil) δ).bind iR1) (hName 2) (dB (d2 oIn (d2 oIx (dVar 0) (dVar 2)) (dSl (dVar 0) dNoP (dPt (dVar 2))))) (dVar 2))
def l_law_is_wheel_2 : Dv → Res D :=
  (dLc [1] (dItems (dVar 0)) (hName 1) (bNot (dB (dChain oLe oLe (dC (.str (Str.ofString "a").cps.toList)) (dVar 1) (dC (.str (Str.ofString "z").cps.toList))))) (dVar 1))
def x_law_is_wheel : XS :=
  (xSeq (xIf (bOr (bNot (dT (dIsi ["str"] (dVar 0)))) (bOr (bNot (dB (dChain oLt oLt (dC (.int 0)) (fun δ => ((dCons (dVar 0) dNil) δ).bind cLen) (dC (.int 9))))) (dB (d2 oNe l_law_is_wheel_2 (dLst dNil))))) (xRet (dC (.bool false))) xNext)
    (xRet (d2 oEq l_law_is_wheel_1 (dLst dNil))))
def F_law_is_wheel : List D → Res D := runX 1 3 x_law_is_wheel
def l_is_manner_1 : Dv → Res D :=
  (dLc [1] (dItems (dVar 0)) (hName 1) bYes (dIsi ["bool"] (dVar 1)))
def x_is_manner : XS :=
  (xRet (dAndV (dIsi ["tuple"] (dVar 0)) (dAndV (d2 oEq (fun δ => ((dCons (dVar 0) dNil) δ).bind cLen) (dC (.int 2))) (fun δ => ((dCons l_is_manner_1 dNil) δ).bind cAll))))
def F_is_manner : List D → Res D := runX 1 2 x_is_manner
def x_law_is_manner : XS :=
  (xSeq (xIf (bOr (bNot (dT (dIsi ["tuple"] (dVar 0)))) (dB (d2 oNe (fun δ => ((dCons (dVar 0) dNil) δ).bind cLen) (dC (.int 2))))) (xRet (dC (.bool false))) xNext)
    (xRet (dAndV (dIsi ["bool"] (d2 oIx (dVar 0) (dC (.int 0)))) (dIsi ["bool"] (d2 oIx (dVar 0) (dC (.int 1)))))))
def F_law_is_manner : List D → Res D := runX 1 1 x_law_is_manner
def l_law_are_texts_1 : Dv → Res D :=
  (dLc [3] (dItems (dVar 2)) (hName 3) (dB (d2 oNi (dVar 3) (dVar 0))) (dVar 3))
def b_law_are_texts_2 : XS :=
  (xWp [2] (xIf (bOr (dB (d2 oGt (fun δ => ((dCons (dVar 2) dNil) δ).bind cLen) (dC (.int 30)))) (dB (d2 oNe l_law_are_texts_1 (dLst dNil)))) (xRet (dC (.bool false))) xNext))
def l_law_are_texts_3 : Dv → Res D :=
  (dLc [2] (dItems (dVar 1)) (hName 2) (bNot (dT (dIsi ["str"] (dVar 2)))) (dVar 2))
def x_law_are_texts : XS :=
  (xSeq (xIf (bOr (bNot (dT (dIsi ["tuple"] (dVar 1)))) (bOr (dB (d2 oGt (fun δ => ((dCons (dVar 1) dNil) δ).bind cLen) (dC (.int 6)))) (dB (d2 oNe l_law_are_texts_3 (dLst dNil))))) (xRet (dC (.bool false))) xNext)
    (xSeq (xWp [2] (xForN 1 (kName 2) b_law_are_texts_2))
    (xRet (dC (.bool true)))))
def F_law_are_texts : List D → Res D := runX 2 4 x_law_are_texts
end Lw
end
namespace Lw
open PySem L2 DL
/-! ### any things: wheels, manners, texts (k01) -/
/-- a thing of bounded size: what the law makes -/
def tg : Nat → D → Bool
  | _, .none | _, .bool _ | _, .int _ => true
  | _, .str l => l.all (· < 128) && decide (l.length ≤ 300)
  | _, .fzl l => immAll l && shpAll 3 l
  | 0, .tuple _ => false
  | n + 1, .tuple l => l.all (tg n) && decide (l.length ≤ 100)
  | _, _ => false
theorem told_b (a b : Bool) (h : a = b) : F_law_is_told [.bool a, .bool b] = .ok (.bool true) := by
  subst h
  cases a <;> simp [Out.need, Res.need, oEq, oNe, oIn, oNi, DL.kName, DL.kTup, DL.kCons, DL.kNil, compOne, hName, hTup, hCons, hNil, big, noBox, F_law_is_told, runX, x_law_is_told]
theorem tyR_tg {n : Nat} {d : D} (h : tg n d = true) : ∃ t, tyR d = .ok t := by
  cases d with
  | none => exact ⟨_, rfl⟩
  | bool _ => exact ⟨_, rfl⟩
  | int _ => exact ⟨_, rfl⟩
  | str _ => exact ⟨_, rfl⟩
  | tuple _ => exact ⟨_, rfl⟩
  | list _ => exact ⟨_, rfl⟩
  | fzl _ => exact ⟨_, rfl⟩
  | dicK _ _ => cases n <;> cases h
  | dicT _ _ => cases n <;> cases h
  | scr _ => cases n <;> cases h
  | adr _ => cases n <;> cases h
  | obj _ _ _ _ => cases n <;> cases h
/-- no text is no wheel -/
theorem wheel_no {d : D} {t : String} (h : tyR d = .ok t) (ht : isT t "str" = false) : F_is_wheel [d] = .ok (.bool false) ∧ F_law_is_wheel [d] = .ok (.bool false) := by
  constructor
  · simp [Out.need, Res.need, oEq, oNe, oIn, oNi, DL.kName, DL.kTup, DL.kCons, DL.kNil, compOne, hName, hTup, hCons, hNil, big, noBox, F_is_wheel, runX, x_is_wheel, dIsi, isOf, h, ht]
  · simp [Out.need, Res.need, oEq, oNe, oIn, oNi, DL.kName, DL.kTup, DL.kCons, DL.kNil, compOne, hName, hTup, hCons, hNil, big, noBox, F_law_is_wheel, runX, x_law_is_wheel, dIsi, isOf, h, ht]
end Lw
namespace Lw
open PySem L2 DL
theorem lt_oneN (a b : Nat) : ([a] < [b]) ↔ a < b := by
  rw [List.cons_lt_cons_iff]
  simp
theorem lw2 {l : List Nat} {x : Option D} (hl : l.length ≤ 1000) : l_law_is_wheel_2 [some (.str l), none, x] = .ok (.list ((l.filter fun c => !(decide (97 ≤ c) && decide (c ≤ 122))).map fun c => .str [c])) := by
  refine lc_filter (fun c => D.str [c]) _ (fun c => D.str [c]) l rfl (by unfold big; omega) fun c hc => ?_
  have e1 : oLe (.str [97]) (.str [c]) = .ok (.bool (decide (97 ≤ c))) := by
    show Res.ok (D.bool (!decide ([c] < [97]))) = _
    congr 2
    by_cases h : 97 ≤ c <;> simp [h, lt_oneN] <;> omega
  have e2 : oLe (.str [c]) (.str [122]) = .ok (.bool (decide (c ≤ 122))) := by
    show Res.ok (D.bool (!decide ([122] < [c]))) = _
    congr 2
    by_cases h : c ≤ 122 <;> simp [h, lt_oneN] <;> omega
  have la : (Str.ofString "a").cps.toList = [97] := by decide +kernel
  have lz : (Str.ofString "z").cps.toList = [122] := by decide +kernel
  by_cases h1 : 97 ≤ c <;> by_cases h2 : c ≤ 122 <;> simp [Out.need, Res.need, oEq, oNe, oIn, oNi, DL.kName, DL.kTup, DL.kCons, DL.kNil, compOne, hName, hTup, hCons, hNil, big, noBox, dChain, la, lz, e1, e2, h1, h2]
theorem lw1 {l : List Nat} {x : Option D} (hl : l.length ≤ 1000) : l_law_is_wheel_1 [some (.str l), x, none] = .ok (.list (((List.range l.length).filter fun n : Nat => decide (l.getD n 0 ∈ l.take n)).map fun n : Nat => D.int (n : Int))) := by
  have hb : l.length ≤ 1000000 := by omega
  have hi : ((fun δ => ((dCons (fun δ => ((dCons (dVar 0) dNil) δ).bind cLen) dNil) δ).bind iR1) : Dv → Res (List D)) [some (.str l), x, none] = .ok ((List.range l.length).map fun n : Nat => D.int (n : Int)) := by
    simp [Out.need, Res.need, oEq, oNe, oIn, oNi, DL.kName, DL.kTup, DL.kCons, DL.kNil, compOne, hName, hTup, hCons, hNil, big, noBox, rng, hb]
  refine lc_filter (fun n : Nat => D.int (n : Int)) (fun n : Nat => decide (l.getD n 0 ∈ l.take n)) (fun n : Nat => D.int (n : Int)) (List.range l.length) hi (by rw [List.length_range]; unfold big; omega) fun n hn => ?_
  have hn2 : n < l.length := List.mem_range.mp hn
  have e1 : atI l (n : Int) = some (l.getD n 0) := by
    rw [atI_get (by omega) (by omega) 0, Int.toNat_natCast]
  have e2 : cutL l Option.none (some (n : Int)) = l.take n := cut_to l n
  generalize l.getD n 0 = c at *
  generalize hm : l.take n = m at *
  have hm2 : m.length ≤ 1000000 := by rw [← hm, List.length_take]; omega
  by_cases hc : c ∈ m <;> simp [Out.need, Res.need, oEq, oNe, oIn, oNi, DL.kName, DL.kTup, DL.kCons, DL.kNil, compOne, hName, hTup, hCons, hNil, big, noBox, e1, e2, hb, hc, hm2]
end Lw
namespace Lw
open PySem L2 DL
theorem eq_nil {L : List D} (h : shpAll 9 L = true) : oEq (.list L) (.list []) = .ok (.bool L.isEmpty) ∧ oNe (.list L) (.list []) = .ok (.bool !L.isEmpty) := by
  have e : oEqB (.list L) (.list []) = .ok L.isEmpty := by
    rw [oEqB_ll, need_ok ⟨by unfold shp; exact h, by unfold shp; rfl⟩]
    cases L with
    | nil => rfl
    | cons x l =>
      have : deq (.list (x :: l)) (.list []) = false := by rw [deq_ll]; rfl
      rw [this]
      rfl
  exact ⟨by unfold oEq; rw [e]; rfl, by unfold oNe; rw [e]; rfl⟩
theorem deq_nil (L : List D) : deqAll L [] = L.isEmpty := by cases L <;> rfl
theorem nodup_take : ∀ l : List Nat, l.Nodup ↔ ∀ n, n < l.length → l.getD n 0 ∉ l.take n := fun l => by
  constructor
  · intro h n hn hm
    obtain ⟨i, hi, e⟩ := List.getElem_of_mem hm
    rw [List.length_take] at hi
    rw [List.getElem_take] at e
    have e2 : l.getD n 0 = l[n] := by rw [List.getD_eq_getElem?_getD, List.getElem?_eq_getElem hn]; rfl
    rw [e2] at e
    exact List.pairwise_iff_getElem.mp h i n (by omega) hn (by omega) e
  · intro h
    refine List.pairwise_iff_getElem.mpr fun i j hi hj hij e => ?_
    refine h j hj ?_
    have e2 : l.getD j 0 = l[j] := by rw [List.getD_eq_getElem?_getD, List.getElem?_eq_getElem hj]; rfl
    rw [e2, ← e]
    exact List.mem_take_iff_getElem.mpr ⟨i, by omega, rfl⟩
theorem law_wheel_str {l : List Nat} (hl : l.length ≤ 1000) (hs : ∀ c ∈ l, c < 0x110000) : F_law_is_wheel [.str l] = .ok (.bool (isW l)) := by
  have hb : l.length ≤ 1000000 := by omega
  have g2 := fun x => lw2 (x := x) hl
  have g1 := fun x => lw1 (x := x) hl
  have s2 : shpAll 9 ((l.filter fun c => !(decide (97 ≤ c) && decide (c ≤ 122))).map fun c => D.str [c]) = true := shpAll_map _ _ _ fun c hc => by
    have := hs c (List.mem_filter.mp hc).1
    simpa [shp] using this
  have s1 : shpAll 9 (((List.range l.length).filter fun n : Nat => decide (l.getD n 0 ∈ l.take n)).map fun n : Nat => D.int (n : Int)) = true := shpAll_map _ _ _ fun c hc => rfl
  have a2 : ((l.filter fun c => !(decide (97 ≤ c) && decide (c ≤ 122))).map fun c => D.str [c]).isEmpty = l.all fun c => decide (c ∈ abc) := by
    rw [List.isEmpty_map, Bool.eq_iff_iff, List.isEmpty_iff, List.filter_eq_nil_iff, List.all_eq_true]
    refine forall_congr' fun c => forall_congr' fun hc => ?_
    simp [mem_abc]
  have a1 : (((List.range l.length).filter fun n : Nat => decide (l.getD n 0 ∈ l.take n)).map fun n : Nat => D.int (n : Int)).isEmpty = decide l.Nodup := by
    rw [List.isEmpty_map, Bool.eq_iff_iff, List.isEmpty_iff, List.filter_eq_nil_iff, decide_eq_true_iff, nodup_take]
    simp
  rw [← deq_nil] at a1 a2
  generalize ((l.filter fun c => !(decide (97 ≤ c) && decide (c ≤ 122))).map fun c => D.str [c]) = L2 at *
  generalize (((List.range l.length).filter fun n : Nat => decide (l.getD n 0 ∈ l.take n)).map fun n : Nat => D.int (n : Int)) = L1 at *
  unfold isW
  generalize (l.all fun c => decide (c ∈ abc)) = q2 at *
  generalize decide l.Nodup = q1 at *
  have o1 : oLt (.int 0) (.int (l.length : Int)) = .ok (.bool (decide (1 ≤ l.length))) := by
    by_cases h : 1 ≤ l.length
    · have h2 : 0 < l.length := by omega
      simp [Out.need, Res.need, oEq, oNe, oIn, oNi, DL.kName, DL.kTup, DL.kCons, DL.kNil, compOne, hName, hTup, hCons, hNil, big, noBox, h, h2]
    · have h2 : l.length = 0 := by omega
      simp [Out.need, Res.need, oEq, oNe, oIn, oNi, DL.kName, DL.kTup, DL.kCons, DL.kNil, compOne, hName, hTup, hCons, hNil, big, noBox, h2]
  have o2 : oLt (.int (l.length : Int)) (.int 9) = .ok (.bool (decide (l.length ≤ 8))) := by
    by_cases h : l.length ≤ 8
    · have h2 : (l.length : Int) < 9 := by omega
      simp [Out.need, Res.need, oEq, oNe, oIn, oNi, DL.kName, DL.kTup, DL.kCons, DL.kNil, compOne, hName, hTup, hCons, hNil, big, noBox, h, h2]
    · have h2 : ¬ (l.length : Int) < 9 := by omega
      simp [Out.need, Res.need, oEq, oNe, oIn, oNi, DL.kName, DL.kTup, DL.kCons, DL.kNil, compOne, hName, hTup, hCons, hNil, big, noBox, h, h2]
  have o3 : tyR (.str l) = .ok "str" := rfl
  by_cases h1 : 1 ≤ l.length <;> by_cases h2 : l.length ≤ 8 <;> cases q2 <;> cases q1 <;> simp [Out.need, Res.need, oEq, oNe, oIn, oNi, DL.kName, DL.kTup, DL.kCons, DL.kNil, compOne, hName, hTup, hCons, hNil, big, noBox, F_law_is_wheel, runX, x_law_is_wheel, dIsi, isOf, o3, isT, hb, dChain, o1, o2, g1, g2, s1, s2, a1, a2, h1, h2]
end Lw
namespace Lw
open PySem L2 DL
theorem manner_no {d : D} {t : String} (h : tyR d = .ok t) (ht : isT t "tuple" = false) : F_is_manner [d] = .ok (.bool false) ∧ F_law_is_manner [d] = .ok (.bool false) := by
  constructor
  · simp [Out.need, Res.need, oEq, oNe, oIn, oNi, DL.kName, DL.kTup, DL.kCons, DL.kNil, compOne, hName, hTup, hCons, hNil, big, noBox, F_is_manner, runX, x_is_manner, dIsi, isOf, h, ht]
  · simp [Out.need, Res.need, oEq, oNe, oIn, oNi, DL.kName, DL.kTup, DL.kCons, DL.kNil, compOne, hName, hTup, hCons, hNil, big, noBox, F_law_is_manner, runX, x_law_is_manner, dIsi, isOf, h, ht]
theorem manner_len {l : List D} (h : l.length ≠ 2) : F_is_manner [.tuple l] = .ok (.bool false) ∧ F_law_is_manner [.tuple l] = .ok (.bool false) := by
  have h2 : ¬ ((l.length : Int) = 2) := by omega
  have e : tyR (.tuple l) = .ok "tuple" := rfl
  constructor
  · simp [Out.need, Res.need, oEq, oNe, oIn, oNi, DL.kName, DL.kTup, DL.kCons, DL.kNil, compOne, hName, hTup, hCons, hNil, big, noBox, F_is_manner, runX, x_is_manner, dIsi, isOf, e, isT, h2]
  · simp [Out.need, Res.need, oEq, oNe, oIn, oNi, DL.kName, DL.kTup, DL.kCons, DL.kNil, compOne, hName, hTup, hCons, hNil, big, noBox, F_law_is_manner, runX, x_law_is_manner, dIsi, isOf, e, isT, h2]
theorem manner_two {a b : D} {ta tb : String} (ha : tyR a = .ok ta) (hb : tyR b = .ok tb) (ba : isBox a = false) (bb : isBox b = false) (ia : imm a = true) (ib : imm b = true) :
    F_is_manner [.tuple [a, b]] = .ok (.bool (isT ta "bool" && isT tb "bool")) ∧ F_law_is_manner [.tuple [a, b]] = .ok (.bool (isT ta "bool" && isT tb "bool")) := by
  have e : tyR (.tuple [a, b]) = .ok "tuple" := rfl
  have oa : isOf ["bool"] a = .ok (.bool (isT ta "bool")) := by simp [isOf, ha]
  have ob : isOf ["bool"] b = .ok (.bool (isT tb "bool")) := by simp [isOf, hb]
  have e1 : l_is_manner_1 [some (.tuple [a, b]), none] = .ok (.list [.bool (isT ta "bool"), .bool (isT tb "bool")]) := by
    have hm : ∀ p ∈ [(a, isT ta "bool"), (b, isT tb "bool")], isOf ["bool"] p.1 = .ok (.bool p.2) ∧ imm p.1 = true ∧ isBox p.1 = false := by
      intro p hp
      rcases List.mem_cons.mp hp with rfl | hp
      · exact ⟨oa, ia, ba⟩
      · have : p = (b, isT tb "bool") := by simpa using hp
        subst this
        exact ⟨ob, ib, bb⟩
    refine lc_map (fun p : D × Bool => p.1) (fun p : D × Bool => D.bool p.2) [(a, isT ta "bool"), (b, isT tb "bool")] rfl (by show 2 ≤ big; decide) fun p hp => ?_
    obtain ⟨h1, h2, h3⟩ := hm p hp
    obtain ⟨d, q⟩ := p
    simp [Out.need, Res.need, oEq, oNe, oIn, oNi, DL.kName, DL.kTup, DL.kCons, DL.kNil, compOne, hName, hTup, hCons, hNil, big, noBox, dIsi, h1, h2, h3]
  have et : isOf ["tuple"] (.tuple [a, b]) = .ok (.bool true) := rfl
  constructor
  · generalize isT ta "bool" = q1 at *
    generalize isT tb "bool" = q2 at *
    cases q1 <;> cases q2 <;> simp [Out.need, Res.need, oEq, oNe, oIn, oNi, DL.kName, DL.kTup, DL.kCons, DL.kNil, compOne, hName, hTup, hCons, hNil, big, noBox, F_is_manner, runX, x_is_manner, dIsi, et, e1, cAll, bools]
  · generalize isT ta "bool" = q1 at *
    generalize isT tb "bool" = q2 at *
    cases q1 <;> cases q2 <;> simp [Out.need, Res.need, oEq, oNe, oIn, oNi, DL.kName, DL.kTup, DL.kCons, DL.kNil, compOne, hName, hTup, hCons, hNil, big, noBox, F_law_is_manner, runX, x_law_is_manner, dIsi, et, oa, ob, atI_0, atI_1, ofO, ba, bb]
end Lw
namespace Lw
open PySem L2 DL
/-- a thing is a text of these letters -/
def txB (w : List Nat) : D → Bool
  | .str t => isTx w t
  | _ => false
theorem text_no {w : List Nat} {d : D} {t : String} (h : tyR d = .ok t) (ht : isT t "str" = false) : F_is_text [.str w, d] = .ok (.bool false) := by
  have o : isOf ["str"] d = .ok (.bool false) := by simp [isOf, h, ht]
  simp [Out.need, Res.need, oEq, oNe, oIn, oNi, DL.kName, DL.kTup, DL.kCons, DL.kNil, compOne, hName, hTup, hCons, hNil, big, noBox, F_is_text, runX, x_is_text, dIsi, o]
theorem texts_no {w : List Nat} {d : D} {t : String} (h : tyR d = .ok t) (ht : isT t "tuple" = false) : F_are_texts [.str w, d] = .ok (.bool false) ∧ F_law_are_texts [.str w, d] = .ok (.bool false) := by
  have o : isOf ["tuple"] d = .ok (.bool false) := by simp [isOf, h, ht]
  constructor
  · simp [Out.need, Res.need, oEq, oNe, oIn, oNi, DL.kName, DL.kTup, DL.kCons, DL.kNil, compOne, hName, hTup, hCons, hNil, big, noBox, F_are_texts, runX, x_are_texts, dIsi, o]
  · simp [Out.need, Res.need, oEq, oNe, oIn, oNi, DL.kName, DL.kTup, DL.kCons, DL.kNil, compOne, hName, hTup, hCons, hNil, big, noBox, F_law_are_texts, runX, x_law_are_texts, dIsi, o]
end Lw
namespace Lw
open PySem L2 DL
/-- a part that may stand in a tuple -/
structure Pt (w : List Nat) (d : D) : Prop where
  im : imm d = true
  bx : isBox d = false
  ty : ∃ t, tyR d = .ok t ∧ (isT t "str" = true → ∃ l, d = .str l) 
  sh : shp 9 d = true
  ln : ∀ l, d = .str l → l.length ≤ 1000
theorem pt_text {w : List Nat} {d : D} (h : Pt w d) : F_is_text [.str w, d] = .ok (.bool (txB w d)) := by
  obtain ⟨t, h1, h2⟩ := h.ty
  cases e : isT t "str" with
  | true =>
    obtain ⟨l, rfl⟩ := h2 e
    exact is_text_ok (h.ln l rfl)
  | false =>
    have : txB w d = false := by
      cases d with
      | str l => cases h1; cases e
      | _ => rfl
    rw [this]
    exact text_no h1 e
theorem texts_tup {w : List Nat} {l : List D} (hl : l.length ≤ 100000) (hp : ∀ d ∈ l, Pt w d) : F_are_texts [.str w, .tuple l] = .ok (.bool (decide (l.length ≤ 6) && l.all (txB w))) := by
  have o : isOf ["tuple"] (.tuple l) = .ok (.bool true) := rfl
  have e1 : l_are_texts_1 [some (.str w), some (.tuple l), none] = .ok (.list (l.map fun d => D.bool (txB w d))) := by
    have := lc_map (vs := [2]) (fi := dItems (dVar 1)) (k := hName 2) (ft := bYes) (fe := dCall 2 F_is_text (dCons (dVar 0) (dCons (dVar 2) dNil))) (δ := [some (.str w), some (.tuple l), none]) id (fun d => D.bool (txB w d)) l (by rw [List.map_id]; rfl) (by unfold big; omega) fun d hd => by
      have g := pt_text (hp d hd)
      have i1 := (hp d hd).im
      have i2 := (hp d hd).bx
      simp [Out.need, Res.need, oEq, oNe, oIn, oNi, DL.kName, DL.kTup, DL.kCons, DL.kNil, compOne, hName, hTup, hCons, hNil, big, noBox, g, i1, i2]
    exact this
  have c1 := cAll_map (txB w) l
  generalize l.map (fun d => D.bool (txB w d)) = L at *
  generalize l.all (txB w) = q at *
  by_cases h : l.length ≤ 6
  · have z : (l.length : Int) ≤ 6 := by omega
    simp [Out.need, Res.need, oEq, oNe, oIn, oNi, DL.kName, DL.kTup, DL.kCons, DL.kNil, compOne, hName, hTup, hCons, hNil, big, noBox, F_are_texts, runX, x_are_texts, dIsi, o, e1, c1, z, h]
  · have z : ¬ (l.length : Int) ≤ 6 := by omega
    simp [Out.need, Res.need, oEq, oNe, oIn, oNi, DL.kName, DL.kTup, DL.kCons, DL.kNil, compOne, hName, hTup, hCons, hNil, big, noBox, F_are_texts, runX, x_are_texts, dIsi, o, z, h]
end Lw
namespace Lw
open PySem L2 DL
def notS : D → Bool
  | .str _ => false
  | _ => true
theorem lat3 {w : List Nat} {l : List D} {x : Option D} (hl : l.length ≤ 100000) (hp : ∀ d ∈ l, Pt w d) : l_law_are_texts_3 [some (.str w), some (.tuple l), none, x] = .ok (.list (l.filter notS)) := by
  have g := lc_filter (vs := [2]) (fi := dItems (dVar 1)) (k := hName 2) (ft := bNot (dT (dIsi ["str"] (dVar 2)))) (fe := dVar 2) (δ := [some (.str w), some (.tuple l), none, x]) id notS id l (by rw [List.map_id]; rfl) (by unfold big; omega) fun d hd => by
    have h := hp d hd
    have i1 := h.im
    have i2 := h.bx
    obtain ⟨t, h1, h2⟩ := h.ty
    have o : isOf ["str"] d = .ok (.bool (!notS d)) := by
      cases e : isT t "str" with
      | true =>
        obtain ⟨m, rfl⟩ := h2 e
        rfl
      | false =>
        have : notS d = true := by
          cases d with
          | str m => cases h1; cases e
          | _ => rfl
        rw [this]
        simp [isOf, h1, e]
    cases q : notS d <;> rw [q] at o <;> simp [Out.need, Res.need, oEq, oNe, oIn, oNi, DL.kName, DL.kTup, DL.kCons, DL.kNil, compOne, hName, hTup, hCons, hNil, big, noBox, dIsi, o, i1, i2]
  rw [List.map_id] at g
  exact g
theorem lat1 {w t : List Nat} {x : Option D} (ht : t.length ≤ 1000) : l_law_are_texts_1 [some (.str w), x, some (.str t), none] = .ok (.list ((t.filter fun c => !decide (c ∈ w)).map fun c => .str [c])) := by
  refine lc_filter (fun c => D.str [c]) _ (fun c => D.str [c]) t rfl (by unfold big; omega) fun c hc => ?_
  by_cases h : c ∈ w <;> simp [Out.need, Res.need, oEq, oNe, oIn, oNi, DL.kName, DL.kTup, DL.kCons, DL.kNil, compOne, hName, hTup, hCons, hNil, big, noBox, h]
end Lw
namespace Lw
open PySem L2 DL
/-- one text asked -/
theorem lat_turn {w t : List Nat} (ht : t.length ≤ 1000) (hs : ∀ c ∈ t, c < 0x110000) {T : D} : xTurn (kName 2) b_law_are_texts_2 (.str t) [some (.fz (.str w)), some (.fz T), none, none] = if (!isTx w t) = true then .rt (.bool false) else .nx [some (.fz (.str w)), some (.fz T), none, none] := by
  have l1 := fun x => lat1 (w := w) (x := x) ht
  have s1 : shpAll 9 ((t.filter fun c => !decide (c ∈ w)).map fun c => D.str [c]) = true := shpAll_map _ _ _ fun c hc => by
    have := hs c (List.mem_filter.mp hc).1
    simpa [shp] using this
  have a1 : ((t.filter fun c => !decide (c ∈ w)).map fun c => D.str [c]).isEmpty = t.all fun c => decide (c ∈ w) := by
    rw [List.isEmpty_map, Bool.eq_iff_iff, List.isEmpty_iff, List.filter_eq_nil_iff, List.all_eq_true]
    refine forall_congr' fun c => forall_congr' fun hc => ?_
    simp
  rw [← deq_nil] at a1
  have hb : t.length ≤ 1000000 := by omega
  generalize ((t.filter fun c => !decide (c ∈ w)).map fun c => D.str [c]) = L1 at *
  unfold isTx
  generalize (t.all fun c => decide (c ∈ w)) = q at *
  by_cases h : t.length ≤ 30
  · have z : ¬ (30 : Int) < (t.length : Int) := by omega
    cases q <;> simp [Out.need, Res.need, oEq, oNe, oIn, oNi, DL.kName, DL.kTup, DL.kCons, DL.kNil, compOne, hName, hTup, hCons, hNil, big, noBox, b_law_are_texts_2, l1, s1, a1, hb, h, z]
  · have z : (30 : Int) < (t.length : Int) := by omega
    cases q <;> simp [Out.need, Res.need, oEq, oNe, oIn, oNi, DL.kName, DL.kTup, DL.kCons, DL.kNil, compOne, hName, hTup, hCons, hNil, big, noBox, b_law_are_texts_2, l1, s1, a1, hb, h, z]
end Lw
namespace Lw
open PySem L2 DL
theorem filter_nil_str {l : List D} (h : l.filter notS = []) : ∃ ts : List (List Nat), l = ts.map D.str := by
  induction l with
  | nil => exact ⟨[], rfl⟩
  | cons d l ih =>
    rw [List.filter_eq_nil_iff] at h
    obtain ⟨ts, e⟩ := ih (List.filter_eq_nil_iff.mpr fun x hx => h x (List.mem_cons_of_mem _ hx))
    have hd := h d List.mem_cons_self
    cases d with
    | str t => exact ⟨t :: ts, by rw [e]; rfl⟩
    | _ => exact absurd rfl hd
theorem law_texts_tup {w : List Nat} {l : List D} (hl : l.length ≤ 100000) (hp : ∀ d ∈ l, Pt w d) : F_law_are_texts [.str w, .tuple l] = .ok (.bool (decide (l.length ≤ 6) && l.all (txB w))) := by
  have o : isOf ["tuple"] (.tuple l) = .ok (.bool true) := rfl
  have l3 := fun x => lat3 (w := w) (x := x) hl hp
  have s3 : shpAll 9 (l.filter notS) = true := by
    have := shpAll_map 9 id (l.filter notS) fun d hd => (hp d (List.mem_filter.mp hd).1).sh
    rw [List.map_id] at this
    exact this
  have il : immAll l = true := (immAll_iff l).mpr fun d hd => (hp d hd).im
  by_cases h6 : l.length ≤ 6
  · have z : ¬ (6 : Int) < (l.length : Int) := by omega
    cases e : l.filter notS with
    | cons d r =>
      have hn : l.all (txB w) = false := by
        have hd : d ∈ l.filter notS := by rw [e]; exact List.mem_cons_self
        obtain ⟨h1, h2⟩ := List.mem_filter.mp hd
        rw [List.all_eq_false]
        refine ⟨d, h1, ?_⟩
        cases d with
        | str t => cases h2
        | _ => intro q; cases q
      rw [hn]
      rw [e] at l3 s3
      have a3 : deqAll (d :: r) [] = false := deq_nil _
      generalize d :: r = L3 at *
      simp [Out.need, Res.need, oEq, oNe, oIn, oNi, DL.kName, DL.kTup, DL.kCons, DL.kNil, compOne, hName, hTup, hCons, hNil, big, noBox, F_law_are_texts, runX, x_law_are_texts, dIsi, o, z, l3, s3, a3]
    | nil =>
      rw [e] at l3
      obtain ⟨ts, rfl⟩ := filter_nil_str e
      have lp := loop_any (k := kName 2) (b := b_law_are_texts_2) D.str [some (.fz (.str w)), some (.fz (.tuple (ts.map D.str))), none, none] ts (fun t => !isTx w t) (.bool false) fun t ht => by
        have h := hp (.str t) (List.mem_map_of_mem ht)
        exact lat_turn (h.ln t rfl) (by
          have := h.sh
          simpa [shp] using this)
      have ea : (ts.map D.str).all (txB w) = !(ts.any fun t => !isTx w t) := by
        rw [List.all_map, List.all_eq_not_any_not]
        rfl
      rw [ea]
      have h6' : ts.length ≤ 6 := by rw [List.length_map] at h6; exact h6
      have z' : ¬ (6 : Int) < (ts.length : Int) := by omega
      generalize (ts.any fun t => !isTx w t) = q at *
      generalize ts.map D.str = l at *
      cases q <;> simp [Out.need, Res.need, oEq, oNe, oIn, oNi, DL.kName, DL.kTup, DL.kCons, DL.kNil, compOne, hName, hTup, hCons, hNil, big, noBox, F_law_are_texts, runX, x_law_are_texts, dIsi, o, z, l3, lp, il, h6, h6']
  · have z : (6 : Int) < (l.length : Int) := by omega
    simp [Out.need, Res.need, oEq, oNe, oIn, oNi, DL.kName, DL.kTup, DL.kCons, DL.kNil, compOne, hName, hTup, hCons, hNil, big, noBox, F_law_are_texts, runX, x_law_are_texts, dIsi, o, z, h6]
end Lw
namespace Lw
open PySem L2 DL
theorem shp_up : ∀ (n : Nat) (d : D), shp n d = true → shp (n + 1) d = true
  | 0, d, h => by
    cases d <;> first | exact h | (unfold shp at h; cases h; done) | (unfold shp at h ⊢; exact h)
  | n + 1, d, h => by
    have all : ∀ l, shpAll n l = true → shpAll (n + 1) l = true := fun l hl => by
      rw [shpAll_iff] at hl ⊢
      exact fun d hd => shp_up n d (hl d hd)
    cases d <;> first | (unfold shp at h ⊢; exact all _ h) | (unfold shp at h ⊢; exact h)
theorem shp_le {n m : Nat} (hm : n ≤ m) {d : D} (h : shp n d = true) : shp m d = true := by
  obtain ⟨k, rfl⟩ := Nat.le.dest hm
  induction k with
  | zero => exact h
  | succ k ih => exact shp_up _ _ (ih (by omega))
theorem tg_part {n : Nat} {l : List D} (h : tg (n + 1) (.tuple l) = true) : (∀ d ∈ l, tg n d = true) ∧ l.length ≤ 100 := by
  unfold tg at h
  rw [Bool.and_eq_true, decide_eq_true_eq, List.all_eq_true] at h
  exact h
theorem tg_tup {n : Nat} {l : List D} (h : ∀ d ∈ l, tg n d = true) (hl : l.length ≤ 100) : tg (n + 1) (.tuple l) = true := by
  unfold tg
  rw [Bool.and_eq_true, decide_eq_true_eq, List.all_eq_true]
  exact ⟨h, hl⟩
theorem tg_str {n : Nat} {l : List Nat} : tg n (.str l) = true ↔ (∀ c ∈ l, c < 128) ∧ l.length ≤ 300 := by
  cases n <;> (unfold tg; rw [Bool.and_eq_true, decide_eq_true_eq, List.all_eq_true]; simp)
theorem tg_fzl {n : Nat} {l : List D} : tg n (.fzl l) = true ↔ immAll l = true ∧ shpAll 3 l = true := by
  cases n <;> (unfold tg; rw [Bool.and_eq_true])
theorem tg_up : ∀ (n : Nat) (d : D), tg n d = true → tg (n + 1) d = true
  | n, .none, _ => by cases n <;> rfl
  | n, .bool _, _ => by cases n <;> rfl
  | n, .int _, _ => by cases n <;> rfl
  | n, .str l, h => tg_str.mpr (tg_str.mp h)
  | n, .fzl l, h => tg_fzl.mpr (tg_fzl.mp h)
  | 0, .tuple l, h => by cases h
  | n + 1, .tuple l, h => tg_tup (fun d hd => tg_up n d ((tg_part h).1 d hd)) (tg_part h).2
  | n, .list _, h => by cases n <;> cases h
  | n, .dicK _ _, h => by cases n <;> cases h
  | n, .dicT _ _, h => by cases n <;> cases h
  | n, .scr _, h => by cases n <;> cases h
  | n, .adr _, h => by cases n <;> cases h
  | n, .obj _ _ _ _, h => by cases n <;> cases h
theorem tg_imm : ∀ (n : Nat) (d : D), tg n d = true → imm d = true
  | n, .none, _ => rfl
  | n, .bool _, _ => rfl
  | n, .int _, _ => rfl
  | n, .str l, h => rfl
  | n, .fzl l, h => (tg_fzl.mp h).1
  | 0, .tuple l, h => by cases h
  | n + 1, .tuple l, h => (immAll_iff l).mpr fun d hd => tg_imm n d ((tg_part h).1 d hd)
  | n, .list _, h => by cases n <;> cases h
  | n, .dicK _ _, h => by cases n <;> cases h
  | n, .dicT _ _, h => by cases n <;> cases h
  | n, .scr _, h => by cases n <;> cases h
  | n, .adr _, h => by cases n <;> cases h
  | n, .obj _ _ _ _, h => by cases n <;> cases h
theorem tg_shp : ∀ (n : Nat) (d : D), tg n d = true → shp (n + 4) d = true
  | n, .none, _ => by unfold shp; rfl
  | n, .bool _, _ => by unfold shp; rfl
  | n, .int _, _ => by unfold shp; rfl
  | n, .str l, h => by
    unfold shp
    rw [List.all_eq_true]
    intro c hc
    have := (tg_str.mp h).1 c hc
    rw [decide_eq_true_eq]
    omega
  | n, .fzl l, h => by
    have h3 : shp 4 (.fzl l) = true := by
      unfold shp
      exact (tg_fzl.mp h).2
    exact shp_le (by omega) h3
  | 0, .tuple l, h => by cases h
  | n + 1, .tuple l, h => by
    have h4 : shp (n + 4 + 1) (.tuple l) = true := by
      unfold shp
      rw [shpAll_iff]
      exact fun d hd => tg_shp n d ((tg_part h).1 d hd)
    exact h4
  | n, .list _, h => by cases n <;> cases h
  | n, .dicK _ _, h => by cases n <;> cases h
  | n, .dicT _ _, h => by cases n <;> cases h
  | n, .scr _, h => by cases n <;> cases h
  | n, .adr _, h => by cases n <;> cases h
  | n, .obj _ _ _ _, h => by cases n <;> cases h
theorem tg_pt {w : List Nat} {n : Nat} (hn : n ≤ 5) {d : D} (h : tg n d = true) : Pt w d := by
  have im := tg_imm n d h
  refine ⟨im, imm_box im, ?_, shp_le (by omega) (tg_shp n d h), fun l e => ?_⟩
  · cases d with
    | none => exact ⟨_, rfl, fun z => absurd z (by decide)⟩
    | bool _ => exact ⟨_, rfl, fun z => absurd z (by decide)⟩
    | int _ => exact ⟨_, rfl, fun z => absurd z (by decide)⟩
    | str l => exact ⟨_, rfl, fun _ => ⟨l, rfl⟩⟩
    | tuple _ => exact ⟨_, rfl, fun z => absurd z (by decide)⟩
    | fzl _ => exact ⟨_, rfl, fun z => absurd z (by decide)⟩
    | list _ => cases n <;> cases h
    | dicK _ _ => cases n <;> cases h
    | dicT _ _ => cases n <;> cases h
    | scr _ => cases n <;> cases h
    | adr _ => cases n <;> cases h
    | obj _ _ _ _ => cases n <;> cases h
  · subst e
    have := (tg_str.mp h).2
    omega
/-! what the two tell of any such thing -/
theorem wheel_both {n : Nat} {d : D} (h : tg n d = true) : ∃ a, F_is_wheel [d] = .ok (.bool a) ∧ F_law_is_wheel [d] = .ok (.bool a) := by
  obtain ⟨t, ht⟩ := tyR_tg h
  cases e : isT t "str" with
  | false => exact ⟨false, wheel_no ht e⟩
  | true =>
    cases d with
    | str l =>
      obtain ⟨h1, h2⟩ := tg_str.mp h
      exact ⟨isW l, is_wheel_ok (by omega), law_wheel_str (by omega) fun c hc => by have := h1 c hc; omega⟩
    | _ => cases ht <;> exact absurd e (by decide)
theorem manner_both {n : Nat} (hn : n ≤ 5) {d : D} (h : tg n d = true) : ∃ a, F_is_manner [d] = .ok (.bool a) ∧ F_law_is_manner [d] = .ok (.bool a) := by
  obtain ⟨t, ht⟩ := tyR_tg h
  cases e : isT t "tuple" with
  | false => exact ⟨false, manner_no ht e⟩
  | true =>
    cases d with
    | tuple l =>
      by_cases h2 : l.length = 2
      · match l, h2 with
        | [a, b], _ =>
          cases n with
          | zero => cases h
          | succ n =>
            have hp := (tg_part h).1
            have ga := hp a (by simp)
            have gb := hp b (by simp)
            obtain ⟨ta, ea⟩ := tyR_tg ga
            obtain ⟨tb, eb⟩ := tyR_tg gb
            have ia := tg_imm _ _ ga
            have ib := tg_imm _ _ gb
            exact ⟨_, manner_two ea eb (imm_box ia) (imm_box ib) ia ib⟩
      · exact ⟨false, manner_len h2⟩
    | _ => cases ht <;> exact absurd e (by decide)
theorem texts_both {w : List Nat} {n : Nat} (hn : n ≤ 5) {d : D} (h : tg n d = true) : ∃ a, F_are_texts [.str w, d] = .ok (.bool a) ∧ F_law_are_texts [.str w, d] = .ok (.bool a) := by
  obtain ⟨t, ht⟩ := tyR_tg h
  cases e : isT t "tuple" with
  | false => exact ⟨false, texts_no ht e⟩
  | true =>
    cases d with
    | tuple l =>
      cases n with
      | zero => cases h
      | succ n =>
        have hp := tg_part h
        have hq : ∀ d ∈ l, Pt w d := fun d hd => tg_pt (by omega) (hp.1 d hd)
        exact ⟨_, texts_tup (by omega) hq, law_texts_tup (by omega) hq⟩
    | _ => cases ht <;> exact absurd e (by decide)
end Lw
namespace Lw
open PySem L2 DL
theorem pick_tg {n : Nat} {L : List D} {k : Int} (h0 : 0 ≤ k) (h1 : k < L.length) (h : ∀ d ∈ L, tg n d = true) : ∃ d, atI L k = some d ∧ tg n d = true := by
  have hl : k.toNat < L.length := by omega
  refine ⟨L[k.toNat], ?_, h _ (List.getElem_mem hl)⟩
  rw [atI_nat' h0 h1, List.getElem?_eq_getElem hl]
/-- the last step: one of some -/
def odd_ret : XS := xRet (d2 oIx (dVar 3) (dCall 3 F_law_mix (dCons (dVar 1) (dCons (dC (.int 9749)) (dCons (fun δ => ((dCons (dVar 3) dNil) δ).bind cLen) dNil)))))
theorem odd_pick {n : Nat} {a b : Option Sl} {c : Int} {L : List D} (h0 : 0 < L.length) (hl : L.length ≤ 1000) (h : ∀ d ∈ L, tg n d = true) : ∃ d, odd_ret [a, some (.fz (.int c)), b, some (.fz (.list L))] = .rt d ∧ tg n d = true := by
  have hp : (0 : Int) < (L.length : Int) := by omega
  have m := mix_ok (c := c) (p := 9749) (m := (L.length : Int)) (by decide) (by decide) hp
  obtain ⟨d, e, hd⟩ := pick_tg (n := n) (L := L) (mix_lo c 9749 hp) (mix_hi c 9749 hp) h
  refine ⟨d, ?_, hd⟩
  have hb : L.length ≤ 1000000 := by omega
  have bx := imm_box (tg_imm _ _ hd)
  simp [Out.need, Res.need, oEq, oNe, oIn, oNi, DL.kName, DL.kTup, DL.kCons, DL.kNil, compOne, hName, hTup, hCons, hNil, big, noBox, odd_ret, m, e, hb, ofO, bx]
def base16 : List D := [.none, .bool true, .bool false, .int 0, .int 1, .int (-1), .int 2, .int 7, .int 10, .int 1000, .str [], .str [97], .str [65], .tuple [], .tuple [.str [97]], .fzl [.int 1]]
theorem base_tg : ∀ d ∈ base16, tg 1 d = true := by
  unfold base16
  simp [tg, immAll, imm, shpAll, shp]
theorem odd_base {a b e f : Option Sl} (x : XS) : (xSeq (xSet 3 (dLst (dCons (dC .none) (dCons (dC (.bool true)) (dCons (dC (.bool false)) (dCons (dC (.int 0)) (dCons (dC (.int 1)) (dCons (fun δ => ((dC (.int 1)) δ).bind oNeg) (dCons (dC (.int 2)) (dCons (dC (.int 7)) (dCons (dC (.int 10)) (dCons (dC (.int 1000)) (dCons (dC (.str (Str.ofString "").cps.toList)) (dCons (dC (.str (Str.ofString "a").cps.toList)) (dCons (dC (.str (Str.ofString "A").cps.toList)) (dCons (dTup dNil) (dCons (dTup (dCons (dC (.str (Str.ofString "a").cps.toList)) dNil)) (dCons (fun δ => fzR ((dLst (dCons (dC (.int 1)) dNil)) δ)) dNil)))))))))))))))))) x) [a, b, e, f] = x [a, b, e, some (.fz (.list base16))] := by
  have l0 : (Str.ofString "").cps.toList = [] := by decide +kernel
  have l1 : (Str.ofString "a").cps.toList = [97] := by decide +kernel
  have l2 : (Str.ofString "A").cps.toList = [65] := by decide +kernel
  simp [Out.need, Res.need, oEq, oNe, oIn, oNi, DL.kName, DL.kTup, DL.kCons, DL.kNil, compOne, hName, hTup, hCons, hNil, big, noBox, l0, l1, l2, fzR, base16, imm, immAll]
end Lw
namespace Lw
open PySem L2 DL
def ups (l : List Nat) : List Nat := l.map PyProof.Rows.up1
theorem base_len : base16.length = 16 := rfl
theorem two_flat (E : List D) : (List.replicate 2 E).flatten = E ++ E := by simp [List.replicate]
/-- a text's changes -/
def extS (l : List Nat) : List D := [.str (l ++ [97]), .str (cutL l none (some (-1))), .str (ups l), .str (l ++ [32]), .str (repN l 2), .fzl [.str l], .str (l ++ cutL l none (some 1))]
def oddC : XS := (xIf (dT (dIsi ["tuple"] (dVar 0))) (xSet 3 (d2 oAdd (dVar 3) (d2 oMulL (dLst (dCons (fun δ => fzR ((fun δ => ((dCons (dVar 0) dNil) δ).bind cList) δ)) (dCons (d2 oAdd (dVar 0) (dSl (dVar 0) (dPt (fun δ => ((dC (.int 1)) δ).bind oNeg)) dNoP)) (dCons (dSl (dVar 0) dNoP (dPt (fun δ => ((dC (.int 1)) δ).bind oNeg))) (dCons (fun δ => ((dVar 0) δ).bind oRevA) (dCons (dSl (dVar 0) (dPt (dC (.int 1))) dNoP) (dCons (dTup (dCons (dVar 0) dNil)) dNil))))))) (dC (.int 2))))) (xIf (dT (dIsi ["str"] (dVar 0))) (xSet 3 (d2 oAdd (dVar 3) (d2 oMulL (dLst (dCons (d2 oAdd (dVar 0) (dC (.str (Str.ofString "a").cps.toList))) (dCons (dSl (dVar 0) dNoP (dPt (fun δ => ((dC (.int 1)) δ).bind oNeg))) (dCons (dUpper (dVar 0)) (dCons (d2 oAdd (dVar 0) (dC (.str (Str.ofString " ").cps.toList))) (dCons (d2 oMulS (dVar 0) (dC (.int 2))) (dCons (fun δ => fzR ((dLst (dCons (dVar 0) dNil)) δ)) (dCons (d2 oAdd (dVar 0) (dSl (dVar 0) dNoP (dPt (dC (.int 1))))) dNil)))))))) (dC (.int 2))))) (xIf (dT (dIsi ["int"] (dVar 0))) (xSet 3 (d2 oAdd (dVar 3) (d2 oMulL (dLst (dCons (d2 oAddB (dVar 0) (dC (.int 1))) (dCons (d2 oSubB (dVar 0) (dC (.int 1))) (dCons (d2 oSubI (dC (.int 0)) (dVar 0)) (dCons (dTup (dCons (dVar 0) dNil)) (dCons (d2 oAddB (dVar 0) (dC (.int 2))) (dCons (d2 oMulB (dVar 0) (dC (.int 2))) dNil))))))) (dC (.int 2))))) xNext)))
theorem extC_str {a b : Option Sl} {l : List Nat} (hl : l.length ≤ 30) (hs : ∀ x ∈ l, x < 128) : oddC [some (.fz (.str l)), a, b, some (.fz (.list base16))] = .nx [some (.fz (.str l)), a, b, some (.fz (.list (base16 ++ (List.replicate 2 (extS l)).flatten)))] := by
  have l1 : (Str.ofString "a").cps.toList = [97] := by decide +kernel
  have l2 : (Str.ofString " ").cps.toList = [32] := by decide +kernel
  have o1 : isOf ["tuple"] (.str l) = .ok (.bool false) := rfl
  have o2 : isOf ["str"] (.str l) = .ok (.bool true) := rfl
  have hb : l.length ≤ 1000000 := by omega
  have hb2 : l.length ≤ 1000 := by omega
  have hb3 : l.length + 1 ≤ 1000000 := by omega
  have c1 : (cutL l none (some (1 : Int))).length ≤ 30 := by
    have : cutL l none (some ((1 : Nat) : Int)) = l.take 1 := cut_to l 1
    rw [show (1 : Int) = ((1 : Nat) : Int) from rfl, this, List.length_take]
    omega
  have hb4 : l.length + (cutL l none (some (1 : Int))).length ≤ 1000000 := by omega
  have n1 : (∀ x, x ∈ l → x < 128) = True := eq_true hs
  have m2 : oMulS (.str l) (.int 2) = .ok (.str (repN l 2)) := need_ok ⟨by decide, by decide, hb2⟩ _
  have bl := base_len
  simp [Out.need, Res.need, oEq, oNe, oIn, oNi, DL.kName, DL.kTup, DL.kCons, DL.kNil, compOne, hName, hTup, hCons, hNil, big, noBox, oddC, dIsi, o1, o2, l1, l2, hb, hb2, hb3, hb4, fzR, imm, immAll, dUpper, extS, ups, two_flat, bl, n1, m2, calm]
  exact immAll_app (by decide) (by simp [immAll, imm])
/-- a tuple's changes -/
def extT (l : List D) : List D := [.fzl l, .tuple (l ++ cutL l (some (-1)) none), .tuple (cutL l none (some (-1))), .tuple l.reverse, .tuple (cutL l (some 1) none), .tuple [.tuple l]]
theorem cut_le {α : Type} (l : List α) (a b : Option Int) : (cutL l a b).length ≤ l.length := by
  unfold cutL
  rw [List.length_take, List.length_drop]
  omega
theorem cut_mem {α : Type} {l : List α} {a b : Option Int} {x : α} (h : x ∈ cutL l a b) : x ∈ l := by
  unfold cutL at h
  exact List.mem_of_mem_drop (List.mem_of_mem_take h)
theorem extC_tup {a b : Option Sl} {l : List D} (hl : l.length ≤ 6) (hi : immAll l = true) : oddC [some (.fz (.tuple l)), a, b, some (.fz (.list base16))] = .nx [some (.fz (.tuple l)), a, b, some (.fz (.list (base16 ++ (List.replicate 2 (extT l)).flatten)))] := by
  have o1 : isOf ["tuple"] (.tuple l) = .ok (.bool true) := rfl
  have hb : l.length ≤ 1000000 := by omega
  have c1 := cut_le l (some (-1)) none
  have hb4 : l.length + (cutL l (some (-1)) none).length ≤ 1000000 := by omega
  have i1 := (immAll_iff l).mp hi
  have i2 : immAll (l ++ cutL l (some (-1)) none) = true := (immAll_iff _).mpr fun d hd => (List.mem_append.mp hd).elim (i1 d) fun z => i1 d (cut_mem z)
  have i3 : immAll (cutL l none (some (-1))) = true := (immAll_iff _).mpr fun d hd => i1 d (cut_mem hd)
  have i4 : immAll l.reverse = true := (immAll_iff _).mpr fun d hd => i1 d (List.mem_reverse.mp hd)
  have i5 : immAll (cutL l (some 1) none) = true := (immAll_iff _).mpr fun d hd => i1 d (cut_mem hd)
  have bl := base_len
  have rv : oRevA (.tuple l) = .ok (.tuple l.reverse) := rfl
  have cl : cList [.tuple l] = .ok (.list l) := rfl
  simp [Out.need, Res.need, oEq, oNe, oIn, oNi, DL.kName, DL.kTup, DL.kCons, DL.kNil, compOne, hName, hTup, hCons, hNil, big, noBox, oddC, dIsi, o1, hb, hb4, fzR, imm, immAll, extT, two_flat, bl, calm, hi, i2, i3, i4, i5, rv, cl]
  exact immAll_app (by decide) (by simp [immAll, imm, hi, i2, i3, i4, i5])
def extB (q : Bool) : List D := [.int (bI q + 1), .int (bI q - 1), .int (0 - bI q), .tuple [.bool q], .int (bI q + 2), .int (bI q * 2)]
theorem extC_bool {a b : Option Sl} {q : Bool} : oddC [some (.fz (.bool q)), a, b, some (.fz (.list base16))] = .nx [some (.fz (.bool q)), a, b, some (.fz (.list (base16 ++ (List.replicate 2 (extB q)).flatten)))] := by
  have o1 : isOf ["tuple"] (.bool q) = .ok (.bool false) := rfl
  have o2 : isOf ["str"] (.bool q) = .ok (.bool false) := rfl
  have o3 : isOf ["int"] (.bool q) = .ok (.bool true) := rfl
  have bl := base_len
  have a1 : ∀ i, oAddB (.bool q) (.int i) = .ok (.int (bI q + i)) := fun _ => rfl
  have a2 : ∀ i, oSubB (.bool q) (.int i) = .ok (.int (bI q - i)) := fun _ => rfl
  have a3 : ∀ i, oMulB (.bool q) (.int i) = .ok (.int (bI q * i)) := fun _ => rfl
  have a4 : ∀ i, oSubI (.int i) (.bool q) = .ok (.int (i - bI q)) := fun _ => rfl
  generalize hg : bI q = z at *
  simp [Out.need, Res.need, oEq, oNe, oIn, oNi, DL.kName, DL.kTup, DL.kCons, DL.kNil, compOne, hName, hTup, hCons, hNil, big, noBox, oddC, dIsi, o1, o2, o3, imm, immAll, extB, two_flat, bl, calm, a1, a2, a3, a4, hg]
  exact immAll_app (by decide) (by simp [immAll, imm])
end Lw
namespace Lw
open PySem L2 DL
def leaf (d : D) : Prop := (∃ b, d = .bool b) ∨ ∃ t, d = .str t ∧ t.length ≤ 30 ∧ ∀ x ∈ t, x < 128
theorem leaf_tg {d : D} (h : leaf d) (n : Nat) : tg n d = true := by
  rcases h with ⟨b, rfl⟩ | ⟨t, rfl, h1, h2⟩
  · cases n <;> rfl
  · exact tg_str.mpr ⟨h2, by omega⟩
theorem leaf_shp {d : D} (h : leaf d) : shp 3 d = true := by
  rcases h with ⟨b, rfl⟩ | ⟨t, rfl, h1, h2⟩
  · rfl
  · unfold shp
    rw [List.all_eq_true]
    intro c hc
    have := h2 c hc
    rw [decide_eq_true_eq]
    omega
theorem ups_lt {l : List Nat} (h : ∀ x ∈ l, x < 128) : ∀ x ∈ ups l, x < 128 := fun x hx => by
  unfold ups at hx
  obtain ⟨y, hy, rfl⟩ := List.mem_map.mp hx
  have := h y hy
  unfold PyProof.Rows.up1
  split <;> omega
theorem rep_mem {l : List Nat} {n x : Nat} (h : x ∈ repN l n) : x ∈ l := by
  unfold repN at h
  obtain ⟨m, hm, hx⟩ := List.mem_flatten.mp h
  rw [(List.mem_replicate.mp hm).2] at hx
  exact hx
theorem extS_tg {l : List Nat} (hl : l.length ≤ 30) (hs : ∀ x ∈ l, x < 128) : ∀ d ∈ extS l, tg 1 d = true := by
  have c1 := cut_le l none (some (-1))
  have c2 := cut_le l none (some 1)
  have app : ∀ m : List Nat, (∀ x ∈ m, x < 128) → ∀ x ∈ l ++ m, x < 128 := fun m hm x hx => (List.mem_append.mp hx).elim (hs x) (hm x)
  intro d hd
  unfold extS at hd
  simp only [List.mem_cons, List.not_mem_nil, or_false] at hd
  rcases hd with rfl | rfl | rfl | rfl | rfl | rfl | rfl
  · exact tg_str.mpr ⟨app _ (by simp), by rw [List.length_append]; simp; omega⟩
  · exact tg_str.mpr ⟨fun x hx => hs x (cut_mem hx), by omega⟩
  · exact tg_str.mpr ⟨ups_lt hs, by unfold ups; rw [List.length_map]; omega⟩
  · exact tg_str.mpr ⟨app _ (by simp), by rw [List.length_append]; simp; omega⟩
  · exact tg_str.mpr ⟨fun x hx => hs x (rep_mem hx), by rw [repN_len]; omega⟩
  · refine tg_fzl.mpr ⟨rfl, ?_⟩
    rw [shpAll_iff]
    intro d hd
    have : d = .str l := by simpa using hd
    subst this
    exact leaf_shp (.inr ⟨l, rfl, hl, hs⟩)
  · exact tg_str.mpr ⟨app _ fun x hx => hs x (cut_mem hx), by rw [List.length_append]; omega⟩
theorem extT_tg {l : List D} (hl : l.length ≤ 6) (h : ∀ d ∈ l, leaf d) : ∀ d ∈ extT l, tg 2 d = true := by
  have c1 := cut_le l none (some (-1))
  have c2 := cut_le l (some 1) none
  have c3 := cut_le l (some (-1)) none
  intro d hd
  unfold extT at hd
  simp only [List.mem_cons, List.not_mem_nil, or_false] at hd
  rcases hd with rfl | rfl | rfl | rfl | rfl | rfl
  · exact tg_fzl.mpr ⟨(immAll_iff l).mpr fun d hd => tg_imm 0 d (leaf_tg (h d hd) 0), (shpAll_iff _ _).mpr fun d hd => leaf_shp (h d hd)⟩
  · exact tg_tup (fun d hd => (List.mem_append.mp hd).elim (fun z => leaf_tg (h d z) 1) fun z => leaf_tg (h d (cut_mem z)) 1) (by rw [List.length_append]; omega)
  · exact tg_tup (fun d hd => leaf_tg (h d (cut_mem hd)) 1) (by omega)
  · exact tg_tup (fun d hd => leaf_tg (h d (List.mem_reverse.mp hd)) 1) (by rw [List.length_reverse]; omega)
  · exact tg_tup (fun d hd => leaf_tg (h d (cut_mem hd)) 1) (by omega)
  · refine tg_tup (fun d hd => ?_) (by simp)
    have : d = .tuple l := by simpa using hd
    subst this
    exact tg_tup (fun d hd => leaf_tg (h d hd) 0) (by omega)
theorem extB_tg (q : Bool) : ∀ d ∈ extB q, tg 1 d = true := by
  intro d hd
  unfold extB at hd
  simp only [List.mem_cons, List.not_mem_nil, or_false] at hd
  rcases hd with rfl | rfl | rfl | rfl | rfl | rfl <;> rfl
def oddB : XS := (xSet 3 (dLst (dCons (dC .none) (dCons (dC (.bool true)) (dCons (dC (.bool false)) (dCons (dC (.int 0)) (dCons (dC (.int 1)) (dCons (fun δ => ((dC (.int 1)) δ).bind oNeg) (dCons (dC (.int 2)) (dCons (dC (.int 7)) (dCons (dC (.int 10)) (dCons (dC (.int 1000)) (dCons (dC (.str (Str.ofString "").cps.toList)) (dCons (dC (.str (Str.ofString "a").cps.toList)) (dCons (dC (.str (Str.ofString "A").cps.toList)) (dCons (dTup dNil) (dCons (dTup (dCons (dC (.str (Str.ofString "a").cps.toList)) dNil)) (dCons (fun δ => fzR ((dLst (dCons (dC (.int 1)) dNil)) δ)) dNil))))))))))))))))))
def oddA (R : List D → Res D) : XS := (xWp [2] (xIf (bAnd (dT (dIsi ["tuple"] (dVar 0))) (bAnd (dB (d2 oNe (dVar 0) (dTup dNil))) (dB (d2 oGt (dCall 3 F_law_mix (dCons (dVar 1) (dCons (dC (.int 9781)) (dCons (dC (.int 5)) dNil)))) (dC (.int 0)))))) (xSeq (xSet 2 (dCall 3 F_law_mix (dCons (dVar 1) (dCons (dC (.int 9769)) (dCons (fun δ => ((dCons (dVar 0) dNil) δ).bind cLen) dNil)))))
    (xRet (d2 oAdd (d2 oAdd (dSl (dVar 0) dNoP (dPt (dVar 2))) (dTup (dCons (dCall 2 R (dCons (d2 oIx (dVar 0) (dVar 2)) (dCons (d2 oAdd (d2 oAdd (dVar 1) (d2 oMul (dC (.int 31)) (dVar 2))) (dC (.int 7))) dNil))) dNil))) (dSl (dVar 0) (dPt (d2 oAdd (dVar 2) (dC (.int 1)))) dNoP)))) xNext))
theorem odd_fold (R : List D → Res D) : x_law_odd R = xSeq (oddA R) (xSeq oddB (xSeq oddC odd_ret)) := rfl
/-- behind the first step -/
theorem odd_rest {n : Nat} {d : D} {c : Int} {E : List D} (hE : E.length ≤ 100) (hd : ∀ e ∈ E, tg n e = true) (hn : 1 ≤ n) (hC : oddC [some (.fz d), some (.fz (.int c)), none, some (.fz (.list base16))] = .nx [some (.fz d), some (.fz (.int c)), none, some (.fz (.list (base16 ++ (List.replicate 2 E).flatten)))]) :
    ∃ r, xSeq oddB (xSeq oddC odd_ret) [some (.fz d), some (.fz (.int c)), none, none] = .rt r ∧ tg n r = true := by
  have hb : ∀ m, 1 ≤ m → ∀ e ∈ base16, tg m e = true := fun m hm e he => by
    induction m with
    | zero => omega
    | succ m ih =>
      by_cases h1 : m = 0
      · subst h1; exact base_tg e he
      · exact tg_up m e (ih (by omega))
  obtain ⟨r, e, hr⟩ := odd_pick (n := n) (a := some (.fz d)) (b := none) (c := c) (L := base16 ++ (List.replicate 2 E).flatten) (by rw [List.length_append]; exact Nat.lt_of_lt_of_le (by decide : 0 < 16) (Nat.le_add_right _ _)) (by rw [two_flat, List.length_append, List.length_append, base_len]; omega) (fun x hx => by
    rw [two_flat] at hx
    rcases List.mem_append.mp hx with z | z
    · exact hb n hn x z
    · exact (List.mem_append.mp z).elim (hd x) (hd x))
  refine ⟨r, ?_, hr⟩
  have b := odd_base (a := some (.fz d)) (b := some (.fz (.int c))) (e := none) (f := none) (xSeq oddC odd_ret)
  have b2 : xSeq oddB (xSeq oddC odd_ret) [some (.fz d), some (.fz (.int c)), none, none] = xSeq oddC odd_ret [some (.fz d), some (.fz (.int c)), none, some (.fz (.list base16))] := b
  rw [b2, xSeq_at, hC]
  exact e
theorem odd_leaf {n : Nat} {d : D} {c : Int} (h : leaf d) : ∃ r, Fr_law_odd (n + 1) [d, .int c] = .ok r ∧ tg 1 r = true := by
  have a1 : isOf ["tuple"] d = .ok (.bool false) := by
    rcases h with ⟨b, rfl⟩ | ⟨t, rfl, _⟩ <;> rfl
  have sA : oddA (Fr_law_odd n) [some (.fz d), some (.fz (.int c)), none, none] = .nx [some (.fz d), some (.fz (.int c)), none, none] := by
    simp [Out.need, Res.need, oEq, oNe, oIn, oNi, DL.kName, DL.kTup, DL.kCons, DL.kNil, compOne, hName, hTup, hCons, hNil, big, noBox, oddA, dIsi, a1]
  have fin : ∃ r, xSeq oddB (xSeq oddC odd_ret) [some (.fz d), some (.fz (.int c)), none, none] = .rt r ∧ tg 1 r = true := by
    rcases h with ⟨b, rfl⟩ | ⟨t, rfl, h1, h2⟩
    · exact odd_rest (by show 6 ≤ 100; omega) (extB_tg b) (by omega) extC_bool
    · exact odd_rest (by show 7 ≤ 100; omega) (extS_tg h1 h2) (by omega) (extC_str h1 h2)
  obtain ⟨r, e, hr⟩ := fin
  refine ⟨r, ?_, hr⟩
  show runX 2 4 (x_law_odd (Fr_law_odd n)) [d, .int c] = _
  rw [odd_fold]
  have e2 : xSeq (oddA (Fr_law_odd n)) (xSeq oddB (xSeq oddC odd_ret)) [some (.fz d), some (.fz (.int c)), none, none] = .rt r := by
    rw [xSeq_at, sA]
    exact e
  generalize xSeq (oddA (Fr_law_odd n)) (xSeq oddB (xSeq oddC odd_ret)) = x at *
  simp [Out.need, Res.need, oEq, oNe, oIn, oNi, DL.kName, DL.kTup, DL.kCons, DL.kNil, compOne, hName, hTup, hCons, hNil, big, noBox, runX, e2]
end Lw
namespace Lw
open PySem L2 DL
theorem odd_tup {n : Nat} {l : List D} {c : Int} (hl : l.length ≤ 6) (h : ∀ d ∈ l, leaf d) : ∃ r, Fr_law_odd (n + 2) [.tuple l, .int c] = .ok r ∧ tg 2 r = true := by
  have a1 : isOf ["tuple"] (.tuple l) = .ok (.bool true) := rfl
  have il : immAll l = true := (immAll_iff l).mpr fun d hd => tg_imm 0 d (leaf_tg (h d hd) 0)
  have s9 : shpAll 9 l = true := (shpAll_iff _ _).mpr fun d hd => shp_le (by omega) (leaf_shp (h d hd))
  have m1 := mix_ok (c := c) (p := 9781) (m := 5) (by decide) (by decide) (by decide)
  have step : ∀ o r, oddA (Fr_law_odd (n + 1)) [some (.fz (.tuple l)), some (.fz (.int c)), none, none] = o → ((o = .rt r ∧ tg 2 r = true) ∨ o = .nx [some (.fz (.tuple l)), some (.fz (.int c)), none, none]) → ∃ r, Fr_law_odd (n + 2) [.tuple l, .int c] = .ok r ∧ tg 2 r = true := by
    intro o r e ho
    rcases ho with ⟨rfl, hr⟩ | rfl
    · refine ⟨r, ?_, hr⟩
      show runX 2 4 (x_law_odd (Fr_law_odd (n + 1))) [.tuple l, .int c] = _
      rw [odd_fold]
      have e2 : xSeq (oddA (Fr_law_odd (n + 1))) (xSeq oddB (xSeq oddC odd_ret)) [some (.fz (.tuple l)), some (.fz (.int c)), none, none] = .rt r := by
        rw [xSeq_at, e]
        rfl
      generalize xSeq (oddA (Fr_law_odd (n + 1))) (xSeq oddB (xSeq oddC odd_ret)) = x at *
      simp [Out.need, Res.need, oEq, oNe, oIn, oNi, DL.kName, DL.kTup, DL.kCons, DL.kNil, compOne, hName, hTup, hCons, hNil, big, noBox, runX, e2]
    · obtain ⟨r, e3, hr⟩ := odd_rest (n := 2) (c := c) (by show 6 ≤ 100; omega) (extT_tg hl h) (by omega) (extC_tup hl il)
      refine ⟨r, ?_, hr⟩
      show runX 2 4 (x_law_odd (Fr_law_odd (n + 1))) [.tuple l, .int c] = _
      rw [odd_fold]
      have e2 : xSeq (oddA (Fr_law_odd (n + 1))) (xSeq oddB (xSeq oddC odd_ret)) [some (.fz (.tuple l)), some (.fz (.int c)), none, none] = .rt r := by
        rw [xSeq_at, e]
        exact e3
      generalize xSeq (oddA (Fr_law_odd (n + 1))) (xSeq oddB (xSeq oddC odd_ret)) = x at *
      simp [Out.need, Res.need, oEq, oNe, oIn, oNi, DL.kName, DL.kTup, DL.kCons, DL.kNil, compOne, hName, hTup, hCons, hNil, big, noBox, runX, e2]
  by_cases hn : l = []
  · refine step _ .none rfl (.inr ?_)
    subst hn
    have dn : deqAll [] [] = true := deq_nil []
    have s0 : shpAll 9 [] = true := s9
    simp [Out.need, Res.need, oEq, oNe, oIn, oNi, DL.kName, DL.kTup, DL.kCons, DL.kNil, compOne, hName, hTup, hCons, hNil, big, noBox, oddA, dIsi, a1, s0, dn]
  · have hp : (0 : Int) < (l.length : Int) := by
      have : 0 < l.length := List.length_pos_iff.mpr hn
      omega
    have he : l.isEmpty = false := by cases l <;> first | exact absurd rfl hn | rfl
    have dn : deqAll l [] = false := (deq_nil l).trans he
    by_cases hm : 0 < mixZ c 9781 5
    · have m2 := mix_ok (c := c) (p := 9769) (m := (l.length : Int)) (by decide) (by decide) hp
      have lo := mix_lo c 9769 hp
      have hi := mix_hi c 9769 hp
      obtain ⟨d, ed, hd⟩ := pick_tg (n := 0) (L := l) lo hi fun d hd => leaf_tg (h d hd) 0
      have hdl : leaf d := by
        have : d ∈ l := by
          rw [atI_nat' lo hi] at ed
          exact List.mem_of_getElem? ed
        exact h d this
      generalize mixZ c 9769 (l.length : Int) = k at *
      obtain ⟨r, er, hr⟩ := odd_leaf (n := n) (c := c + 31 * k + 7) hdl
      have c1 := cut_le l none (some k)
      have c2 := cut_le l (some (k + 1)) none
      have b1 : (cutL l none (some k)).length + 1 ≤ 1000000 := by omega
      have b2 : (cutL l none (some k)).length + 1 + (cutL l (some (k + 1)) none).length ≤ 1000000 := by omega
      have hb : l.length ≤ 1000000 := by omega
      have bx := imm_box (tg_imm _ _ hd)
      have bx2 := imm_box (tg_imm _ _ hr)
      have ir := tg_imm _ _ hr
      have sm := small_31 k 31 (by decide)
      refine step _ (.tuple (cutL l none (some k) ++ [r] ++ cutL l (some (k + 1)) none)) rfl (.inl ⟨?_, tg_tup (fun x hx => ?_) ?_⟩)
      · generalize Fr_law_odd (n + 1) = R at *
        simp [Out.need, Res.need, oEq, oNe, oIn, oNi, DL.kName, DL.kTup, DL.kCons, DL.kNil, compOne, hName, hTup, hCons, hNil, big, noBox, oddA, dIsi, a1, s9, dn, he, m1, hm, m2, ed, er, ofO, bx, bx2, b1, b2, hb, sm, ir]
      · rcases List.mem_append.mp hx with hx | hx
        · rcases List.mem_append.mp hx with hx | hx
          · exact leaf_tg (h x (cut_mem hx)) 1
          · have : x = r := by simpa using hx
            subst this
            exact hr
        · exact leaf_tg (h x (cut_mem hx)) 1
      · rw [List.length_append, List.length_append]
        simp
        omega
    · refine step _ .none rfl (.inr ?_)
      simp [Out.need, Res.need, oEq, oNe, oIn, oNi, DL.kName, DL.kTup, DL.kCons, DL.kNil, compOne, hName, hTup, hCons, hNil, big, noBox, oddA, dIsi, a1, s9, dn, he, m1, hm]
end Lw
noncomputable section
namespace Lw
open PySem L2 DL
def b_law_1 : XS :=
  (xWp [8] (xSeq (xIf (bNot (dT (dCall 2 F_law_is_told (dCons (dCall 1 F_is_wheel (dCons (dVar 8) dNil)) (dCons (dCall 1 F_law_is_wheel (dCons (dVar 8) dNil)) dNil))))) (xRet (dC (.bool false))) xNext)
    (xSeq (xIf (bNot (dT (dCall 2 F_law_is_told (dCons (dCall 1 F_is_manner (dCons (dVar 8) dNil)) (dCons (dCall 1 F_law_is_manner (dCons (dVar 8) dNil)) dNil))))) (xRet (dC (.bool false))) xNext)
    (xIf (bNot (dT (dCall 2 F_law_is_told (dCons (dCall 2 F_are_texts (dCons (dVar 3) (dCons (dVar 8) dNil))) (dCons (dCall 2 F_law_are_texts (dCons (dVar 3) (dCons (dVar 8) dNil))) dNil))))) (xRet (dC (.bool false))) xNext))))
def b_law_2 : XS :=
  (xWp [7] (xApp 6 (dCall 2 F_law_odd (dCons (d2 oIx (dTup (dCons (dVar 4) (dCons (dVar 5) dNil))) (d2 oMod (dVar 7) (dC (.int 2)))) (dCons (d2 oAdd (d2 oAdd (dCall 2 F_law_cell (dCons (dVar 0) (dCons (dC (.int 9)) dNil))) (d2 oMul (dC (.int 17)) (dVar 7))) (d2 oMul (dC (.int 5)) (dVar 1))) dNil)))))
def b_law_3 : XS :=
  (xWp [1, 2, 3, 4, 5, 6, 7, 8] (xSeq (xSet 2 (d2 oAdd (dCall 2 F_law_cell (dCons (dVar 0) (dCons (d2 oMod (dVar 1) (dC (.int 9))) dNil))) (d2 oMul (dC (.int 31)) (dVar 1))))
    (xSeq (xSet 3 (dCall 2 F_law_wheel (dCons (dVar 2) (dCons (dC (.int 8)) dNil))))
    (xSeq (xPar 4 5 false false (dCall 3 F_law_texts (dCons (dVar 2) (dCons (dVar 3) (dCons (dC (.int 6)) dNil)))) (dCall 1 F_law_manner (dCons (dVar 2) dNil)))
    (xSeq (xOwn 6 (dLst (dCons (dVar 3) (dCons (d2 oAdd (dVar 3) (dSl (dVar 3) dNoP (dPt (dC (.int 1))))) (dCons (dUpper (dVar 3)) (dCons (dC (.str (Str.ofString "").cps.toList)) (dCons (dC (.str (Str.ofString "abcdefgh").cps.toList)) (dCons (dC (.str (Str.ofString "abcdefghi").cps.toList)) dNil))))))))
    (xSeq (xOwn 6 (d2 oAdd (dVar 6) (dLst (dCons (dC (.str (Str.ofString "a b").cps.toList)) (dCons (dC (.str (Str.ofString "ab1").cps.toList)) (dCons (dVar 4) (dCons (fun δ => fzR ((fun δ => ((dCons (dVar 4) dNil) δ).bind cList) δ)) (dCons (d2 oMulT (dVar 4) (dC (.int 7))) (dCons (dTup (dCons (d2 oMulS (dVar 3) (dC (.int 30))) dNil)) dNil)))))))))
    (xSeq (xOwn 6 (d2 oAdd (dVar 6) (dLst (dCons (dTup (dCons (d2 oMulS (dSl (dVar 3) dNoP (dPt (dC (.int 1)))) (dC (.int 30))) dNil)) (dCons (dTup (dCons (d2 oMulS (dSl (dVar 3) dNoP (dPt (dC (.int 1)))) (dC (.int 31))) dNil)) (dCons (dTup (dCons (d2 oAdd (dVar 3) (dC (.str (Str.ofString "z").cps.toList))) dNil)) (dCons (dTup (dCons (dC (.str (Str.ofString "").cps.toList)) (dCons (dC (.str (Str.ofString "").cps.toList)) dNil))) (dCons (dVar 5) (dCons (fun δ => fzR ((fun δ => ((dCons (dVar 5) dNil) δ).bind cList) δ)) dNil)))))))))
    (xSeq (xOwn 6 (d2 oAdd (dVar 6) (dLst (dCons (dSl (dVar 5) dNoP (dPt (dC (.int 1)))) (dCons (dTup (dCons (dC (.int 1)) (dCons (dC (.int 0)) dNil))) (dCons (dTup (dCons (dC (.bool true)) (dCons (dC (.int 0)) dNil))) (dCons (dC .none) (dCons (dTup dNil) dNil))))))))
    (xSeq (xOwn 6 (d2 oAdd (dVar 6) (dLst (dCons (d2 oAdd (dVar 5) (dTup (dCons (dC (.bool true)) dNil))) (dCons (d2 oMulT (dTup (dCons (dC (.str (Str.ofString "").cps.toList)) dNil)) (dC (.int 6))) (dCons (d2 oMulT (dTup (dCons (dC (.str (Str.ofString "").cps.toList)) dNil)) (dC (.int 7))) (dCons (dC (.int 5)) (dCons (dTup (dCons (dVar 3) (dCons (dC (.int 5)) dNil))) (dCons (dTup (dCons (dC (.int 5)) dNil)) dNil)))))))))
    (xSeq (xWp [7] (xFor (fun δ => ((dCons (dC (.int 20)) dNil) δ).bind iR1) (kName 7) b_law_2))
    (xWp [8] (xFz 6 (xForN 6 (kName 8) b_law_1)))))))))))))
def x_law : XS :=
  (xSeq (xWp [1, 2, 3, 4, 5, 6, 7, 8] (xFor (fun δ => ((dCons (dC (.int 10)) dNil) δ).bind iR1) (kName 1) b_law_3))
    (xRet (dC (.bool true))))
end Lw
end
namespace Lw
open PySem L2 DL
/-- one thing asked -/
theorem thing_turn {x0 x1 x2 x4 x5 x6 : Option Sl} {w : List Nat} {n : Nat} (hn : n ≤ 5) {d : D} (h : tg n d = true) : xTurn (kName 8) b_law_1 d [x0, x1, x2, some (.fz (.str w)), x4, x5, x6, none, none] = .nx [x0, x1, x2, some (.fz (.str w)), x4, x5, x6, none, none] := by
  obtain ⟨a, a1, a2⟩ := wheel_both h
  obtain ⟨b, b1, b2⟩ := manner_both hn h
  obtain ⟨c, c1, c2⟩ := texts_both (w := w) hn h
  have im := tg_imm _ _ h
  have t1 := told_b a a rfl
  have t2 := told_b b b rfl
  have t3 := told_b c c rfl
  simp [Out.need, Res.need, oEq, oNe, oIn, oNi, DL.kName, DL.kTup, DL.kCons, DL.kNil, compOne, hName, hTup, hCons, hNil, big, noBox, b_law_1, a1, a2, b1, b2, c1, c2, im, t1, t2, t3]
/-- what is asked ahead of the changed ones -/
def someL (w : List Nat) (tl : List D) (b f : Bool) : List D := [.str w, .str (w ++ cutL w none (some 1)), .str (ups w), .str [], .str [97, 98, 99, 100, 101, 102, 103, 104], .str [97, 98, 99, 100, 101, 102, 103, 104, 105],
  .str [97, 32, 98], .str [97, 98, 49], .tuple tl, .fzl tl, .tuple (List.replicate 7 tl).flatten, .tuple [.str (repN w 30)],
  .tuple [.str (repN (cutL w none (some 1)) 30)], .tuple [.str (repN (cutL w none (some 1)) 31)], .tuple [.str (w ++ [122])], .tuple [.str [], .str []], .tuple [.bool b, .bool f], .fzl [.bool b, .bool f],
  .tuple [.bool b], .tuple [.int 1, .int 0], .tuple [.bool true, .int 0], .none, .tuple [],
  .tuple [.bool b, .bool f, .bool true], .tuple (List.replicate 6 [D.str []]).flatten, .tuple (List.replicate 7 [D.str []]).flatten, .int 5, .tuple [.str w, .int 5], .tuple [.int 5]]
theorem rep_len {α : Type} (l : List α) (n : Nat) : (List.replicate n l).flatten.length = n * l.length := by
  induction n with
  | zero => simp
  | succ n ih => rw [List.replicate_succ, List.flatten_cons, List.length_append, ih, Nat.succ_mul, Nat.add_comm]
theorem repl_mem {α : Type} {l : List α} {n : Nat} {x : α} (h : x ∈ (List.replicate n l).flatten) : x ∈ l := by
  obtain ⟨m, hm, hx⟩ := List.mem_flatten.mp h
  rw [(List.mem_replicate.mp hm).2] at hx
  exact hx
theorem some_tg {w : List Nat} {tl : List D} {b f : Bool} (hw : ∀ c ∈ w, c < 128) (h8 : w.length ≤ 8) (ht : ∀ d ∈ tl, leaf d) (hl : tl.length ≤ 6) : ∀ d ∈ someL w tl b f, tg 3 d = true := by
  have c1 := cut_le w none (some 1)
  have lw : ∀ {l : List Nat} {n : Nat}, (∀ c ∈ l, c < 128) → l.length ≤ 300 → tg n (.str l) = true := fun h1 h2 => tg_str.mpr ⟨h1, h2⟩
  have one : ∀ {d : D}, tg 2 d = true → tg 3 (.tuple [d]) = true := fun h => tg_tup (fun x hx => by
    rw [List.mem_singleton.mp hx]
    exact h) (by simp)
  have cw : ∀ c ∈ cutL w none (some 1), c < 128 := fun c hc => hw c (cut_mem hc)
  have tt : ∀ {l : List D}, l.all (tg 2) = true → l.length ≤ 100 → tg 3 (.tuple l) = true := fun h1 h2 => tg_tup (fun d hd => List.all_eq_true.mp h1 d hd) h2
  unfold someL
  refine List.forall_mem_cons.mpr ⟨lw hw (by omega), List.forall_mem_cons.mpr ⟨lw (fun c hc => (List.mem_append.mp hc).elim (hw c) (cw c)) (by rw [List.length_append]; omega), List.forall_mem_cons.mpr ⟨lw (ups_lt hw) (by unfold ups; rw [List.length_map]; omega), List.forall_mem_cons.mpr ⟨rfl, List.forall_mem_cons.mpr ⟨rfl, List.forall_mem_cons.mpr ⟨rfl, ?_⟩⟩⟩⟩⟩⟩
  refine List.forall_mem_cons.mpr ⟨rfl, List.forall_mem_cons.mpr ⟨rfl, List.forall_mem_cons.mpr ⟨tg_tup (fun d hd => leaf_tg (ht d hd) 2) (by omega), List.forall_mem_cons.mpr ⟨tg_fzl.mpr ⟨(immAll_iff _).mpr fun d hd => tg_imm 0 d (leaf_tg (ht d hd) 0), (shpAll_iff _ _).mpr fun d hd => leaf_shp (ht d hd)⟩, ?_⟩⟩⟩⟩
  refine List.forall_mem_cons.mpr ⟨tg_tup (fun d hd => leaf_tg (ht d (repl_mem hd)) 2) (by rw [rep_len]; omega), List.forall_mem_cons.mpr ⟨one (lw (fun c hc => hw c (rep_mem hc)) (by rw [repN_len]; omega)), ?_⟩⟩
  refine List.forall_mem_cons.mpr ⟨one (lw (fun c hc => cw c (rep_mem hc)) (by rw [repN_len]; omega)), List.forall_mem_cons.mpr ⟨one (lw (fun c hc => cw c (rep_mem hc)) (by rw [repN_len]; omega)), List.forall_mem_cons.mpr ⟨one (lw (fun c hc => (List.mem_append.mp hc).elim (hw c) fun z => by
    have : c = 122 := by simpa using z
    omega) (by rw [List.length_append]; simp; omega)), ?_⟩⟩⟩
  refine List.forall_mem_cons.mpr ⟨rfl, List.forall_mem_cons.mpr ⟨rfl, List.forall_mem_cons.mpr ⟨rfl, List.forall_mem_cons.mpr ⟨rfl, List.forall_mem_cons.mpr ⟨rfl, List.forall_mem_cons.mpr ⟨rfl, List.forall_mem_cons.mpr ⟨rfl, List.forall_mem_cons.mpr ⟨rfl, List.forall_mem_cons.mpr ⟨rfl, List.forall_mem_cons.mpr ⟨rfl, List.forall_mem_cons.mpr ⟨rfl, List.forall_mem_cons.mpr ⟨rfl, ?_⟩⟩⟩⟩⟩⟩⟩⟩⟩⟩⟩⟩
  refine List.forall_mem_cons.mpr ⟨tg_tup (fun d hd => ?_) (by simp), List.forall_mem_cons.mpr ⟨rfl, fun d hd => by cases hd⟩⟩
  rcases List.mem_cons.mp hd with rfl | hd
  · exact lw hw (by omega)
  · have : d = .int 5 := by simpa using hd
    rw [this]
    rfl

theorem ups_ok {l : List Nat} (h : ∀ x ∈ l, x < 128) (hl : l.length ≤ 1000) : mUpper (.str l) = .ok (.str (ups l)) := by
  rw [mUpper_s, need_ok ⟨List.all_eq_true.mpr fun c hc => decide_eq_true (h c hc), by unfold big; omega⟩]
  rfl
theorem mulT_ok (l : List D) {k : Nat} (h : k ≤ 1000) (hl : l.length ≤ 1000) : oMulT (.tuple l) (.int (k : Int)) = .ok (.tuple (List.replicate k l).flatten) := by
  rw [oMulT_tk, need_ok ⟨by omega, by omega, hl⟩]
  rfl
theorem mulS_ok (l : List Nat) {k : Nat} (h : k ≤ 1000) (hl : l.length ≤ 1000) : oMulS (.str l) (.int (k : Int)) = .ok (.str (repN l k)) := need_ok ⟨by omega, by omega, hl⟩ _
theorem someL_imm {w : List Nat} {tl : List D} {b f : Bool} (h : ∀ d ∈ someL w tl b f, tg 3 d = true) : immAll (someL w tl b f) = true := (immAll_iff _).mpr fun d hd => tg_imm 3 d (h d hd)
def law_pre (x : XS) : XS :=
  (xSeq (xSet 2 (d2 oAdd (dCall 2 F_law_cell (dCons (dVar 0) (dCons (d2 oMod (dVar 1) (dC (.int 9))) dNil))) (d2 oMul (dC (.int 31)) (dVar 1))))
    (xSeq (xSet 3 (dCall 2 F_law_wheel (dCons (dVar 2) (dCons (dC (.int 8)) dNil))))
    (xSeq (xPar 4 5 false false (dCall 3 F_law_texts (dCons (dVar 2) (dCons (dVar 3) (dCons (dC (.int 6)) dNil)))) (dCall 1 F_law_manner (dCons (dVar 2) dNil)))
    (xSeq (xOwn 6 (dLst (dCons (dVar 3) (dCons (d2 oAdd (dVar 3) (dSl (dVar 3) dNoP (dPt (dC (.int 1))))) (dCons (dUpper (dVar 3)) (dCons (dC (.str (Str.ofString "").cps.toList)) (dCons (dC (.str (Str.ofString "abcdefgh").cps.toList)) (dCons (dC (.str (Str.ofString "abcdefghi").cps.toList)) dNil))))))))
    (xSeq (xOwn 6 (d2 oAdd (dVar 6) (dLst (dCons (dC (.str (Str.ofString "a b").cps.toList)) (dCons (dC (.str (Str.ofString "ab1").cps.toList)) (dCons (dVar 4) (dCons (fun δ => fzR ((fun δ => ((dCons (dVar 4) dNil) δ).bind cList) δ)) (dCons (d2 oMulT (dVar 4) (dC (.int 7))) (dCons (dTup (dCons (d2 oMulS (dVar 3) (dC (.int 30))) dNil)) dNil)))))))))
    (xSeq (xOwn 6 (d2 oAdd (dVar 6) (dLst (dCons (dTup (dCons (d2 oMulS (dSl (dVar 3) dNoP (dPt (dC (.int 1)))) (dC (.int 30))) dNil)) (dCons (dTup (dCons (d2 oMulS (dSl (dVar 3) dNoP (dPt (dC (.int 1)))) (dC (.int 31))) dNil)) (dCons (dTup (dCons (d2 oAdd (dVar 3) (dC (.str (Str.ofString "z").cps.toList))) dNil)) (dCons (dTup (dCons (dC (.str (Str.ofString "").cps.toList)) (dCons (dC (.str (Str.ofString "").cps.toList)) dNil))) (dCons (dVar 5) (dCons (fun δ => fzR ((fun δ => ((dCons (dVar 5) dNil) δ).bind cList) δ)) dNil)))))))))
    (xSeq (xOwn 6 (d2 oAdd (dVar 6) (dLst (dCons (dSl (dVar 5) dNoP (dPt (dC (.int 1)))) (dCons (dTup (dCons (dC (.int 1)) (dCons (dC (.int 0)) dNil))) (dCons (dTup (dCons (dC (.bool true)) (dCons (dC (.int 0)) dNil))) (dCons (dC .none) (dCons (dTup dNil) dNil))))))))
    (xSeq (xOwn 6 (d2 oAdd (dVar 6) (dLst (dCons (d2 oAdd (dVar 5) (dTup (dCons (dC (.bool true)) dNil))) (dCons (d2 oMulT (dTup (dCons (dC (.str (Str.ofString "").cps.toList)) dNil)) (dC (.int 6))) (dCons (d2 oMulT (dTup (dCons (dC (.str (Str.ofString "").cps.toList)) dNil)) (dC (.int 7))) (dCons (dC (.int 5)) (dCons (dTup (dCons (dVar 3) (dCons (dC (.int 5)) dNil))) (dCons (dTup (dCons (dC (.int 5)) dNil)) dNil)))))))))
    x))))))))
def law_post : XS := xSeq (xWp [7] (xFor (fun δ => ((dCons (dC (.int 20)) dNil) δ).bind iR1) (kName 7) b_law_2)) (xWp [8] (xFz 6 (xForN 6 (kName 8) b_law_1)))
theorem law_fold : b_law_3 = xWp [1, 2, 3, 4, 5, 6, 7, 8] (law_pre law_post) := rfl
theorem pre_run {ns : List Int} {j : Nat} {q1 : Int} {w : List Nat} {tl : List D} {b f : Bool} (x : XS) (c1 : F_law_cell [.scr ns, .int ((j : Int) % 9)] = .ok (.int q1)) (w1 : F_law_wheel [.int (q1 + 31 * (j : Int)), .int 8] = .ok (.str w)) (t1 : F_law_texts [.int (q1 + 31 * (j : Int)), .str w, .int 6] = .ok (.tuple tl)) (m1 : F_law_manner [.int (q1 + 31 * (j : Int))] = .ok (.tuple [.bool b, .bool f]))
    (hw2 : ∀ c ∈ w, c < 128) (h8 : w.length ≤ 8) (ln : tl.length ≤ 6) (il : immAll tl = true) :
    law_pre x [some (.fz (.scr ns)), some (.fz (.int (j : Int))), none, none, none, none, none, none, none] = x [some (.fz (.scr ns)), some (.fz (.int (j : Int))), some (.fz (.int (q1 + 31 * (j : Int)))), some (.fz (.str w)), some (.fz (.tuple tl)), some (.fz (.tuple [.bool b, .bool f])), some (.ow (.list (someL w tl b f))), none, none] := by
  have s1 := small_31 (j : Int) 31 (by decide)
  have hb : w.length ≤ 1000000 := by omega
  have k1 := cut_le w none (some 1)
  have hb1 : w.length + (cutL w none (some 1)).length ≤ 1000000 := by omega
  have hb2 : w.length + 1 ≤ 1000000 := by omega
  have hb3 : tl.length ≤ 1000 := by omega
  have n1 : (∀ x, x ∈ w → x < 128) = True := eq_true hw2
  have g1 := mulS_ok w (k := 30) (by decide) (by omega)
  have g2 := mulS_ok (cutL w none (some 1)) (k := 30) (by decide) (by omega)
  have g3 := mulS_ok (cutL w none (some 1)) (k := 31) (by decide) (by omega)
  have g4 := mulT_ok tl (k := 7) (by decide) (by omega)
  have g5 := mulT_ok [D.str []] (k := 6) (by decide) (by decide)
  have g6 := mulT_ok [D.str []] (k := 7) (by decide) (by decide)
  have i7 : immAll (List.replicate 7 tl).flatten = true := (immAll_iff _).mpr fun d hd => (immAll_iff tl).mp il d (repl_mem hd)
  have i8 : immAll (List.replicate 6 [D.str []]).flatten = true := rfl
  have i9 : immAll (List.replicate 7 [D.str []]).flatten = true := rfl
  have cl : cList [.tuple tl] = .ok (.list tl) := rfl
  have cl2 : cList [.tuple [.bool b, .bool f]] = .ok (.list [.bool b, .bool f]) := rfl
  have cm : cutL [D.bool b, .bool f] none (some 1) = [.bool b] := rfl
  have l0 : (Str.ofString "").cps.toList = [] := by decide +kernel
  have l1 : (Str.ofString "abcdefgh").cps.toList = [97, 98, 99, 100, 101, 102, 103, 104] := by decide +kernel
  have l2 : (Str.ofString "abcdefghi").cps.toList = [97, 98, 99, 100, 101, 102, 103, 104, 105] := by decide +kernel
  have l3 : (Str.ofString "a b").cps.toList = [97, 32, 98] := by decide +kernel
  have l4 : (Str.ofString "ab1").cps.toList = [97, 98, 49] := by decide +kernel
  have l5 : (Str.ofString "z").cps.toList = [122] := by decide +kernel
  change oMulS (.str w) (.int 30) = _ at g1
  change oMulS _ (.int 30) = _ at g2
  change oMulS _ (.int 31) = _ at g3
  change oMulT (.tuple tl) (.int 7) = _ at g4
  change oMulT _ (.int 6) = _ at g5
  change oMulT _ (.int 7) = _ at g6
  unfold someL
  generalize (List.replicate 7 tl).flatten = r7 at *
  generalize (List.replicate 6 [D.str []]).flatten = r8 at *
  generalize (List.replicate 7 [D.str []]).flatten = r9 at *
  simp [Out.need, Res.need, oEq, oNe, oIn, oNi, DL.kName, DL.kTup, DL.kCons, DL.kNil, compOne, hName, hTup, hCons, hNil, big, noBox, law_pre, c1, w1, t1, m1, s1, hb, hb1, hb2, hb3, n1, g1, g2, g3, g4, g5, g6, i7, i8, i9, cl, cl2, cm, l0, l1, l2, l3, l4, l5, il, fzR, imm, immAll, ups, dUpper, calm, notScr, -oMulT_tk]
theorem turn_law {ns : List Int} (j : Nat) : xTurn (kName 1) b_law_3 (.int (0 + (j : Int))) [some (.fz (.scr ns)), none, none, none, none, none, none, none, none] = .nx [some (.fz (.scr ns)), none, none, none, none, none, none, none, none] := by
  have c1 := cellm_ok ns j
  have c2 := cell_ok ns (k := 9) (by decide)
  generalize hc : ns.getD ((j : Int) % 9).toNat 0 = q1 at c1
  generalize ns.getD (9 : Int).toNat 0 = q2 at c2
  have s1 := small_31 (j : Int) 31 (by decide)
  have s3 := small_31 (j : Int) 5 (by decide)
  have w1 := wheel_call (q1 + 31 * (j : Int)) (m := 8) (by decide)
  have hw := wheel_ok (c := q1 + 31 * (j : Int)) (most := 8) (by decide)
  have m1 := manner_call (q1 + 31 * (j : Int))
  generalize wheelL (q1 + 31 * (j : Int)) 8 = w at w1 hw
  generalize mannerB (q1 + 31 * (j : Int)) = b at m1
  generalize mannerF (q1 + 31 * (j : Int)) = f at m1
  have t1 := texts_call (q1 + 31 * (j : Int)) (m := 6) hw.pos hw.le (by decide) (by decide)
  have x1 := texts_tx (c := q1 + 31 * (j : Int)) (m := 6) hw.pos (by decide) (by decide)
  have n1 := texts_len (q1 + 31 * (j : Int)) w (m := 6) (by decide)
  generalize textsL (q1 + 31 * (j : Int)) w 6 = ts at t1 x1 n1
  have hw2 : ∀ c ∈ w, c < 128 := fun c hc => by have := hw.lt c hc; omega
  have lf : ∀ d ∈ ts.map D.str, leaf d := fun d hd => by
    obtain ⟨t, ht, rfl⟩ := List.mem_map.mp hd
    exact .inr ⟨t, rfl, (x1.i t ht).2, fun c hc => hw2 c ((x1.i t ht).1 c hc)⟩
  have ln : (ts.map D.str).length ≤ 6 := by rw [List.length_map]; omega
  change F_law_texts [.int (q1 + 31 * (j : Int)), .str w, .int 6] = .ok (.tuple (ts.map D.str)) at t1
  change F_law_manner [.int (q1 + 31 * (j : Int))] = .ok (.tuple [.bool b, .bool f]) at m1
  generalize ts.map D.str = tl at *
  have tg0 := some_tg (b := b) (f := f) hw2 hw.le lf ln
  have sim := someL_imm tg0
  have ho : ∀ i : Nat, ∃ r, F_law_odd [(if i % 2 = 0 then D.tuple tl else .tuple [.bool b, .bool f]), .int (q2 + 17 * (i : Int) + 5 * (j : Int))] = .ok r ∧ tg 3 r = true := fun i => by
    by_cases hi : i % 2 = 0
    · rw [if_pos hi]
      obtain ⟨r, e, hr⟩ := odd_tup (n := 4) (c := q2 + 17 * (i : Int) + 5 * (j : Int)) ln lf
      exact ⟨r, e, tg_up _ _ hr⟩
    · rw [if_neg hi]
      obtain ⟨r, e, hr⟩ := odd_tup (n := 4) (l := [.bool b, .bool f]) (c := q2 + 17 * (i : Int) + 5 * (j : Int)) (by show 2 ≤ 6; omega) (fun d hd => by
        rcases List.mem_cons.mp hd with rfl | hd
        · exact .inl ⟨_, rfl⟩
        · rw [List.mem_singleton.mp hd]
          exact .inl ⟨_, rfl⟩)
      exact ⟨r, e, tg_up _ _ hr⟩
  obtain ⟨g, hg⟩ := Classical.axiomOfChoice ho
  have lp := loop_rng (k := kName 7) (b := b_law_2) 0 20 (fun i => [some (.fz (.scr ns)), some (.fz (.int (j : Int))), some (.fz (.int (q1 + 31 * (j : Int)))), some (.fz (.str w)), some (.fz (.tuple tl)), some (.fz (.tuple [.bool b, .bool f])), some (.ow (.list (someL w tl b f ++ (List.range i).map g))), none, none]) fun i hi => by
    have e := (hg i).1
    have ig := tg_imm _ _ (hg i).2
    have ia : immAll (someL w tl b f ++ (List.range i).map g) = true := immAll_app sim ((immAll_iff _).mpr fun d hd => by
      obtain ⟨k, _, rfl⟩ := List.mem_map.mp hd
      exact tg_imm _ _ (hg k).2)
    have ll : (someL w tl b f ++ (List.range i).map g).length < 1000000 := by
      rw [List.length_append, List.length_map, List.length_range]
      have : (someL w tl b f).length = 29 := rfl
      omega
    have er : (List.range (i + 1)).map g = (List.range i).map g ++ [g i] := by rw [List.range_succ, List.map_append]; rfl
    have s2 := small_31 (i : Int) 17 (by decide)
    have em : ((i : Int) % 2) = ((i % 2 : Nat) : Int) := by omega
    have ix : atI [D.tuple tl, .tuple [.bool b, .bool f]] ((i : Int) % 2) = some (if i % 2 = 0 then D.tuple tl else .tuple [.bool b, .bool f]) := by
      rw [em]
      rcases (by omega : i % 2 = 0 ∨ i % 2 = 1) with z | z <;> rw [z] <;> rfl
    have bx : isBox (if i % 2 = 0 then D.tuple tl else .tuple [.bool b, .bool f]) = false := by split <;> rfl
    rw [er, ← List.append_assoc]
    generalize someL w tl b f ++ (List.range i).map g = L at *
    generalize (if i % 2 = 0 then D.tuple tl else .tuple [.bool b, .bool f]) = th at *
    generalize g i = r at *
    simp [Out.need, Res.need, oEq, oNe, oIn, oNi, DL.kName, DL.kTup, DL.kCons, DL.kNil, compOne, hName, hTup, hCons, hNil, big, noBox, b_law_2, c2, s2, s3, ix, bx, ofO, e, ig, ia, ll]
  have il : immAll tl = true := (immAll_iff _).mpr fun d hd => tg_imm 0 d (leaf_tg (lf d hd) 0)
  have p := pre_run (b := b) (f := f) law_post c1 w1 t1 m1 hw2 hw.le ln il
  have e0 : someL w tl b f ++ (List.range 0).map g = someL w tl b f := by rw [List.range_zero, List.map_nil, List.append_nil]
  have all : ∀ d ∈ someL w tl b f ++ (List.range 20).map g, tg 3 d = true := fun d hd => by
    rcases List.mem_append.mp hd with z | z
    · exact tg0 d z
    · obtain ⟨k, _, rfl⟩ := List.mem_map.mp z
      exact (hg k).2
  have l2 := fun (x0 x1 x2 x4 x5 x6 : Option Sl) => loop_same (k := kName 8) (b := b_law_1) (someL w tl b f ++ (List.range 20).map g) [x0, x1, x2, some (.fz (.str w)), x4, x5, x6, none, none] fun d hd => thing_turn (n := 3) (by omega) (all d hd)
  have ia : immAll (someL w tl b f ++ (List.range 20).map g) = true := (immAll_iff _).mpr fun d hd => tg_imm _ _ (all d hd)
  simp only [e0] at lp
  have fin : law_post [some (.fz (.scr ns)), some (.fz (.int (j : Int))), some (.fz (.int (q1 + 31 * (j : Int)))), some (.fz (.str w)), some (.fz (.tuple tl)), some (.fz (.tuple [.bool b, .bool f])), some (.ow (.list (someL w tl b f))), none, none] = .nx [some (.fz (.scr ns)), some (.fz (.int (j : Int))), some (.fz (.int (q1 + 31 * (j : Int)))), some (.fz (.str w)), some (.fz (.tuple tl)), some (.fz (.tuple [.bool b, .bool f])), some (.fz (.list (someL w tl b f ++ (List.range 20).map g))), none, none] := by
    clear tg0 all hg ho p
    generalize someL w tl b f = L0 at *
    generalize (List.range 20).map g = L1 at *
    simp [Out.need, Res.need, oEq, oNe, oIn, oNi, DL.kName, DL.kTup, DL.kCons, DL.kNil, compOne, hName, hTup, hCons, hNil, big, noBox, law_post, lp, l2]
  rw [xTurn_at, law_fold]
  have k1 : kName 1 (.int (0 + (j : Int))) [some (.fz (.scr ns)), none, none, none, none, none, none, none, none] = some [some (.fz (.scr ns)), some (.fz (.int (j : Int))), none, none, none, none, none, none, none] := by simp [Out.need, Res.need, oEq, oNe, oIn, oNi, DL.kName, DL.kTup, DL.kCons, DL.kNil, compOne, hName, hTup, hCons, hNil, big, noBox]
  rw [k1]
  simp only [xWp_at]
  rw [p, fin]
  simp [Out.need, Res.need, oEq, oNe, oIn, oNi, DL.kName, DL.kTup, DL.kCons, DL.kNil, compOne, hName, hTup, hCons, hNil, big, noBox, imm]
theorem run_law (ns : List Int) : runX 1 9 x_law [.scr ns] = .ok (.bool true) := by
  have lp := loop_rng (k := kName 1) (b := b_law_3) 0 10 (fun _ => [some (.fz (.scr ns)), none, none, none, none, none, none, none, none]) fun j _ => turn_law j
  simp [Out.need, Res.need, oEq, oNe, oIn, oNi, DL.kName, DL.kTup, DL.kCons, DL.kNil, compOne, hName, hTup, hCons, hNil, big, noBox, runX, x_law, lp]
end Lw
namespace Lw
open PySem L2 DL
def top (i : Nat) : Stmt := PySem.Challenge.pw_wheelorders_k01_wheels.main.body.getD i (.Pass ⟨0, 0, 0, 0⟩)
section
variable {P : Program} {w : World} {K : Fg} {mg : Str → Option Value} {base : Heap} {cl : Nat → Addr}
def g_law_mix : DS :=
  (gSeq (gSet 3 (d2 oMod (d2 oMul (dVar 0) (dC (.int 48271))) (dVar 1)))
    (gRet (d2 oMod (d2 oMod (d2 oMul (dVar 3) (d2 oAdd (dVar 3) (dC (.int 7)))) (dVar 1)) (dVar 2))))
theorem rd_law_mix {ds : List D} (hl : ds.length = 3) (hne : F_law_mix ds ≠ .stuck) : g_law_mix (ends (F_law_mix ds)) (startE 4 ds) := by
  unfold g_law_mix
  obtain ⟨c, p, m, rfl, h1, h2, h3⟩ := sh_law_mix hne
  have a1 := Int.emod_nonneg (c * 48271) (b := p) (by omega)
  have a2 := Int.emod_lt_of_pos (c * 48271) h1
  have k1 : smallI c ∨ smallI 48271 := Or.inr (by unfold smallI; omega)
  have k2 : smallI (c * 48271 % p) ∨ smallI (c * 48271 % p + 7) := Or.inl (by unfold smallI; omega)
  simp [gSeq, gSet, gOwn, gRet, gIf, gNext, gPar, d2, dVar, dC, dB, dT, bAnd, bOr, bNot, dIf, dAndV, dOrV, dNotV, dCons, dNil, dTup, dLst, dCall, dM, dSl, dPt, dNoP, oEq, oNe, oIn, oNi, view, startE, ends, mk, okM, notScr, kName, DL.kTup, kCons, kNil, big, F_law_mix, mixZ, Res.need, h1, h2, h3, k1, k2]
abbrev s_law_mix : Stmt := top 11
theorem sc_law_mix : FnScope ["cell", "prime", "many", "blend"] ["cell", "prime", "many"] (defScope s_law_mix) := ⟨rfl, rfl, rfl, by decide +kernel, rfl, by decide +kernel, by decide +kernel⟩
theorem ok_law_mix {f : Addr} {fd : FuncData} (F : Fun K "_law_mix" "_law_mix" s_law_mix f fd)  : FnOk P w K mg base (L2.CX P w) 1 f fd ["cell", "prime", "many"] (spD K cl 3 F_law_mix) := by
  refine okD F sc_law_mix (by decide) (fun cdv A outer s H E hr => ?_)
  have hu := hu64 hr
  exact ⟨_, g_law_mix, (b_cons (s_set (i := 3) (q_mod (QF.qe (q_mul (q_var 0 (pv 0)) (QF.qe q_int))) (q_var 1 (pv 1))) sc_law_mix.nd rfl (by first | exact Or.inl rfl | exact Or.inr rfl))
      (b_one (s_ret (q_mod (QF.qe (q_mod (QF.qe (q_mul (q_var 3 (pv 3)) (QF.qe (q_add (q_var 3 (pv 3)) (QF.qe q_int))))) (q_var 1 (pv 1)))) (q_var 2 (pv 2)))))), fun ds hl hne => rd_law_mix hl hne⟩
def g_law_wheel : DS :=
  (gSeq (gPar 2 3 true false (fun δ => ((dCons (dC (.str (Str.ofString "hcfbdaeg").cps.toList)) dNil) δ).bind cList) (dC (.str (Str.ofString "").cps.toList)))
    (gSeq (gFor (fun δ => ((dCons (d2 oAdd (dC (.int 1)) (dCall 3 F_law_mix (dCons (dVar 0) (dCons (dC (.int 9973)) (dCons (dVar 1) dNil))))) dNil) δ).bind iR1) (kName 4)
      (gSeq (gSet 5 (d2 oIx (dVar 2) (dCall 3 F_law_mix (dCons (d2 oAdd (dVar 0) (d2 oMul (dC (.int 19)) (dVar 4))) (dCons (dC (.int 9967)) (dCons (fun δ => ((dCons (dVar 2) dNil) δ).bind cLen) dNil))))))
    (gSeq (gRem 2 (dVar 5))
    (gSet 3 (d2 oAdd (dVar 3) (dVar 5))))))
    (gRet (fun δ => noBox (dVar 3 δ)))))
theorem rd_law_wheel {ds : List D} (hl : ds.length = 2) (hne : F_law_wheel ds ≠ .stuck) : g_law_wheel (ends (F_law_wheel ds)) (startE 6 ds) := by
  unfold g_law_wheel
  obtain ⟨c, m, rfl, h1, h2⟩ := sh_law_wheel hne
  have hm := wheelN_le (c := c) ⟨h1, h2⟩
  have l0 := mix_lo c 9973 h1
  have l1 := mix_hi c 9973 h1
  have hs : (Str.ofString "hcfbdaeg").cps.toList = pool0 := by decide +kernel
  have hs0 : (Str.ofString "").cps.toList = [] := by decide +kernel
  have eF : F_law_wheel [.int c, .int m] = .ok (.str (wheelL c m)) := need_ok ⟨h1, h2⟩ _
  have e1 : F_law_mix [.int c, .int 9973, .int m] = .ok (.int (mixZ c 9973 m)) := mix_ok (by decide) (by decide) h1
  have e2 : cList [.str pool0] = .ok (.list ((pool0.map fun c => [c]).map D.str)) := rfl
  have e3 : immAll ((pool0.map fun c => [c]).map D.str) = true := imm_strs _
  rw [eF]
  refine sq_par true false (.list ((pool0.map fun c => [c]).map D.str)) (.str []) ?_ ?_ (by simp [startE]) (by simp [startE]) ⟨e3, fun _ => ⟨rfl, rfl⟩⟩ ⟨rfl, fun z => by cases z⟩ ?_
  · simp [dCons, dNil, dC, hs, e2]
  · simp [dC, hs0]
  refine sq_rng 0 (wheelN c m) ?_ (fun j ε => j ≤ 8 ∧ ∃ x4 x5, ε = [some (.fz (.int c)), some (.fz (.int m)), some (.ow (.list (((drawn c j).1.map fun c => [c]).map D.str))), some (.fz (.str (drawn c j).2)), x4, x5]) ⟨Nat.zero_le _, none, none, ?_⟩ (fun j ε hj hI => ?_) (fun ε hI => ?_)
  · simp [view, startE, mk, dCons, dNil, d2, dC, dVar, dCall, e1, Res.need, big]
    rw [if_pos (by omega)]
    rfl
  · rfl
  · obtain ⟨hj8, x4, x5, rfl⟩ := hI
    have hj' : j < 8 := by omega
    obtain ⟨d1, d2', d3, d4⟩ := drawn_ok c j (by omega)
    have hp : (0 : Int) < (((drawn c j).1.length : Nat) : Int) := by omega
    have q0 := mix_lo (c + 19 * (j : Int)) 9967 hp
    have q1 := mix_hi (c + 19 * (j : Int)) 9967 hp
    have hx : (drawn c j).1.getD (mixZ (c + 19 * (j : Int)) 9967 (drawn c j).1.length).toNat 0 ∈ (drawn c j).1 := by
      have hl : (mixZ (c + 19 * (j : Int)) 9967 (drawn c j).1.length).toNat < (drawn c j).1.length := by omega
      rw [List.getD_eq_getElem?_getD, List.getElem?_eq_getElem hl]
      exact List.getElem_mem hl
    have key : drawn c (j + 1) = ((drawn c j).1.erase ((drawn c j).1.getD (mixZ (c + 19 * (j : Int)) 9967 (drawn c j).1.length).toNat 0), (drawn c j).2 ++ [(drawn c j).1.getD (mixZ (c + 19 * (j : Int)) 9967 (drawn c j).1.length).toNat 0]) := rfl
    have at1 : atI (((drawn c j).1.map fun c => [c]).map D.str) (mixZ (c + 19 * (j : Int)) 9967 (drawn c j).1.length) = some (.str [(drawn c j).1.getD (mixZ (c + 19 * (j : Int)) 9967 (drawn c j).1.length).toNat 0]) := by
      rw [atI_nat' q0 (by rw [List.length_map, List.length_map]; exact q1), List.getElem?_map, List.getElem?_map]
      have hl : (mixZ (c + 19 * (j : Int)) 9967 (drawn c j).1.length).toNat < (drawn c j).1.length := by omega
      rw [List.getD_eq_getElem?_getD, List.getElem?_eq_getElem hl]
      rfl
    have m1 : F_law_mix [.int (c + 19 * (j : Int)), .int 9967, .int ((drawn c j).1.length : Nat)] = .ok (.int (mixZ (c + 19 * (j : Int)) 9967 (drawn c j).1.length)) := mix_ok (by decide) (by decide) hp
    have k1 : smallI 19 ∨ smallI (j : Int) := Or.inl (by unfold smallI; omega)
    have er : ((drawn c j).1.map fun c => [c]).erase [(drawn c j).1.getD (mixZ (c + 19 * (j : Int)) 9967 (drawn c j).1.length).toNat 0] = ((drawn c j).1.erase ((drawn c j).1.getD (mixZ (c + 19 * (j : Int)) 9967 (drawn c j).1.length).toNat 0)).map fun c => [c] := erase_one _ _
    rw [key]
    generalize (drawn c j).1.getD (mixZ (c + 19 * (j : Int)) 9967 (drawn c j).1.length).toNat 0 = x at hx at1 er
    have hx' : [x] ∈ (drawn c j).1.map fun c => [c] := List.mem_map_of_mem (f := fun c => [c]) hx
    refine ⟨_, rfl, ?_⟩
    refine sq_set (.str [x]) ?_ (by simp) rfl (sq_rem ((drawn c j).1.map fun c => [c]) [x] rfl ?_ hx' ?_)
    · simp [view, Sl.d, d2, dVar, dCall, dCons, dNil, dC, oMul, oAdd, Res.need, k1, cLen, m1]
      have := at1
      rw [List.map_map] at this
      rw [this]
      rfl
    · simp [view, Sl.d, dVar]
    · rw [er]
      have l3 : (drawn c j).2.length + 1 ≤ 1000000 := by omega
      refine st_set (.str ((drawn c j).2 ++ [x])) ?_ (by simp) rfl ⟨by omega, _, _, rfl⟩
      simp [view, Sl.d, d2, dVar, oAdd, Res.need, l3]
  · obtain ⟨_, x4, x5, rfl⟩ := hI
    simp [gRet, view, Sl.d, dVar, noBox, isBox, ends, wheelL]
abbrev s_law_wheel : Stmt := top 12
theorem sc_law_wheel : FnScope ["cell", "most", "pool", "gathered", "n", "letter"] ["cell", "most"] (defScope s_law_wheel) := ⟨rfl, rfl, rfl, by decide +kernel, rfl, by decide +kernel, by decide +kernel⟩
theorem ok_law_wheel {f : Addr} {fd : FuncData} (F : Fun K "_law_wheel" "_law_wheel" s_law_wheel f fd) (c_law_mix : Cal P w K mg base cl 1 "_law_mix" 3 F_law_mix) (z_range : mg "range" = none) (z_list : mg "list" = none) (z_len : mg "len" = none) : FnOk P w K mg base (L2.CX P w) 2 f fd ["cell", "most"] (spD K cl 2 F_law_wheel) := by
  refine okD F sc_law_wheel (by decide) (fun cdv A outer s H E hr => ?_)
  have hu := hu64 hr
  exact ⟨_, g_law_wheel, (b_cons (s_par (i := 2) (j := 3) true false (q_list rfl z_list (a_cons (QF.qe q_str) a_nil)) q_str rfl sc_law_wheel.nd rfl rfl (by decide) rfl rfl rfl)
      (b_cons (s_for (passes_of rfl) rfl (i_range1 z_range (a_cons (QF.qe (q_add (QF.qe q_int) (QF.qe (q_fn c_law_mix (hr.mono (by decide)) (takes_of rfl rfl rfl rfl) (a_cons (q_var 0 (pv 0)) (a_cons (QF.qe q_int) (a_cons (q_var 1 (pv 1)) a_nil))))))) a_nil)) (g_name (i := 4) sc_law_wheel.nd rfl (by first | exact Or.inl rfl | exact Or.inr rfl)) (b_cons (s_set (i := 5) (q_sub_ (q_var 2 (pv 2)) (QF.qe (q_fn c_law_mix (hr.mono (by decide)) (takes_of rfl rfl rfl rfl) (a_cons (QF.qe (q_add (q_var 0 (pv 0)) (QF.qe (q_mul (QF.qe q_int) (q_var 4 (pv 4)))))) (a_cons (QF.qe q_int) (a_cons (QF.qe (q_len z_len (a_cons (q_var 2 (pv 2)) a_nil))) a_nil)))))) sc_law_wheel.nd rfl (by first | exact Or.inl rfl | exact Or.inr rfl))
      (b_cons (s_rem (i := 2) (pv 2) (q_var 5 (pv 5)))
      (b_one (s_set (i := 3) (q_add (q_var 3 (pv 3)) (q_var 5 (pv 5))) sc_law_wheel.nd rfl (by first | exact Or.inl rfl | exact Or.inr rfl))))))
      (b_one (s_ret (QE.qn (q_var 3 (pv 3))))))), fun ds hl hne => rd_law_wheel hl hne⟩
def g_law_cell : DS :=
  (gSeq (gIf (dB (d2 oLt (dVar 1) (fun δ => ((dCons (dVar 0) dNil) δ).bind cLen))) (gRet (d2 oIx (dVar 0) (dVar 1))) gNext)
    (gRet (dC (.int 0))))
theorem rd_law_cell {ds : List D} (hl : ds.length = 2) (hne : F_law_cell ds ≠ .stuck) : g_law_cell (ends (F_law_cell ds)) (startE 2 ds) := by
  unfold g_law_cell
  obtain ⟨ns, k, rfl, hk⟩ := sh_law_cell hne
  by_cases h : k < (ns.length : Int)
  · have e := atI_get hk h (0 : Int)
    simp [gSeq, gSet, gOwn, gRet, gIf, gNext, gPar, d2, dVar, dC, dB, dT, bAnd, bOr, bNot, dIf, dAndV, dOrV, dNotV, dCons, dNil, dTup, dLst, dCall, dM, dSl, dPt, dNoP, oEq, oNe, oIn, oNi, view, startE, ends, mk, okM, notScr, kName, DL.kTup, kCons, kNil, big, F_law_cell, hk, h, e, Res.need]
  · have e : ns.getD k.toNat 0 = 0 := by
      have : ns.length ≤ k.toNat := by omega
      simp [List.getD, this]
    simp [gSeq, gSet, gOwn, gRet, gIf, gNext, gPar, d2, dVar, dC, dB, dT, bAnd, bOr, bNot, dIf, dAndV, dOrV, dNotV, dCons, dNil, dTup, dLst, dCall, dM, dSl, dPt, dNoP, oEq, oNe, oIn, oNi, view, startE, ends, mk, okM, notScr, kName, DL.kTup, kCons, kNil, big, F_law_cell, hk, h, e, Res.need]
abbrev s_law_cell : Stmt := top 10
theorem sc_law_cell : FnScope ["script", "k"] ["script", "k"] (defScope s_law_cell) := ⟨rfl, rfl, rfl, by decide +kernel, rfl, by decide +kernel, by decide +kernel⟩
theorem ok_law_cell {f : Addr} {fd : FuncData} (F : Fun K "_law_cell" "_law_cell" s_law_cell f fd) (z_len : mg "len" = none) : FnOk P w K mg base (L2.CX P w) 1 f fd ["script", "k"] (spD K cl 2 F_law_cell) := by
  refine okD F sc_law_cell (by decide) (fun cdv A outer s H E hr => ?_)
  have hu := hu64 hr
  exact ⟨_, g_law_cell, (b_cons (s_if (t_lt (q_var 1 (pv 1)) (QF.qe (q_len z_len (a_cons (q_var 0 (pv 0)) a_nil)))) (b_one (s_ret (q_sub_ (q_var 0 (pv 0)) (q_var 1 (pv 1))))) b_nil)
      (b_one (s_ret q_int))), fun ds hl hne => rd_law_cell hl hne⟩
def g_law_text : DS :=
  (gSeq (gSet 3 (dC (.str (Str.ofString "").cps.toList)))
    (gSeq (gFor (fun δ => ((dCons (dCall 3 F_law_mix (dCons (dVar 0) (dCons (dC (.int 9949)) (dCons (d2 oAdd (dVar 2) (dC (.int 1))) dNil)))) dNil) δ).bind iR1) (kName 4)
      (gSeq (gSet 5 (d2 oIx (dVar 1) (dCall 3 F_law_mix (dCons (d2 oAdd (dVar 0) (d2 oMul (dC (.int 23)) (dVar 4))) (dCons (dC (.int 9941)) (dCons (fun δ => ((dCons (dVar 1) dNil) δ).bind cLen) dNil))))))
    (gSeq (gSet 6 (dAndV (d2 oGt (dVar 4) (dC (.int 0))) (d2 oEq (dCall 3 F_law_mix (dCons (d2 oAdd (dVar 0) (d2 oMul (dC (.int 5)) (dVar 4))) (dCons (dC (.int 9931)) (dCons (dC (.int 4)) dNil)))) (dC (.int 0)))))
    (gSet 3 (d2 oAdd (dVar 3) (dIf (dT (dVar 6)) (d2 oIx (dVar 3) (fun δ => ((dC (.int 1)) δ).bind oNeg)) (fun δ => noBox (dVar 5 δ))))))))
    (gRet (fun δ => noBox (dVar 3 δ)))))
theorem rd_law_text {ds : List D} (hl : ds.length = 3) (hne : F_law_text ds ≠ .stuck) : g_law_text (ends (F_law_text ds)) (startE 7 ds) := by
  unfold g_law_text
  obtain ⟨c, w, m, rfl, h1, h2, h3, h4⟩ := sh_law_text hne
  have eF : F_law_text [.int c, .str w, .int m] = .ok (.str (textD c w m)) := need_ok ⟨h1, h2, h3, h4⟩ _
  rw [eF]
  have hs0 : (Str.ofString "").cps.toList = [] := by decide +kernel
  have hp : (0 : Int) < ((w.length : Nat) : Int) := by omega
  have hb : w.length ≤ 1000000 := by omega
  have l0 := mix_lo c 9949 (m := m + 1) (by omega)
  have l1 := mix_hi c 9949 (m := m + 1) (by omega)
  have e1 : F_law_mix [.int c, .int 9949, .int (m + 1)] = .ok (.int (mixZ c 9949 (m + 1))) := mix_ok (by decide) (by decide) (by omega)
  have lb : (mixZ c 9949 (m + 1)).natAbs ≤ 1000000 := by omega
  refine sq_set (.str []) (by simp [view, startE, mk, d2, dVar, dC, dB, dT, bAnd, bOr, bNot, dIf, dAndV, dOrV, dNotV, dCons, dNil, dTup, dLst, dCall, dM, dSl, dPt, dNoP, oEq, oNe, oIn, oNi, Res.need, dChain, dItems, big, hs0]) (by simp [startE]) rfl ?_
  have tn := textN_le (c := c) h3
  refine sq_rng 0 (textN c m) ?_ (fun j ε => j ≤ 30 ∧ ∃ x4 x5 x6, ε = [some (.fz (.int c)), some (.fz (.str w)), some (.fz (.int m)), some (.fz (.str (textL c w j))), x4, x5, x6]) ⟨by omega, none, none, none, ?_⟩ (fun j ε hj hI => ?_) (fun ε hI => ?_)
  · simp [view, startE, mk, dCons, dNil, d2, dC, dVar, dCall, e1, Res.need, big, lb, textN]
  · rfl
  · obtain ⟨hj30, x4, x5, x6, rfl⟩ := hI
    refine ⟨_, rfl, ?_⟩
    have hj' : (j : Int) < 31 := by omega
    have q0 := mix_lo (c + 23 * (j : Int)) 9941 hp
    have q1 := mix_hi (c + 23 * (j : Int)) 9941 hp
    have m1 : F_law_mix [.int (c + 23 * (j : Int)), .int 9941, .int (w.length : Nat)] = .ok (.int (mixZ (c + 23 * (j : Int)) 9941 (w.length : Nat))) := mix_ok (by decide) (by decide) hp
    have m2 : F_law_mix [.int (c + 5 * (j : Int)), .int 9931, .int 4] = .ok (.int (mixZ (c + 5 * (j : Int)) 9931 4)) := mix_ok (by decide) (by decide) (by decide)
    have k1 : smallI 23 ∨ smallI (j : Int) := Or.inl (by unfold smallI; decide)
    have k2 : smallI 5 ∨ smallI (j : Int) := Or.inl (by unfold smallI; decide)
    have at1 := atI_get q0 q1 0
    have tl := textL_len c w j
    have tb : (textL c w j).length ≤ 1000000 := by omega
    have tb1 : (textL c w j).length + 1 ≤ 1000000 := by omega
    refine sq_set (.str [w.getD (mixZ (c + 23 * (j : Int)) 9941 (w.length : Nat)).toNat 0]) (by simp [view, startE, mk, d2, dVar, dC, dB, dT, bAnd, bOr, bNot, dIf, dAndV, dOrV, dNotV, dCons, dNil, dTup, dLst, dCall, dM, dSl, dPt, dNoP, oEq, oNe, oIn, oNi, Res.need, dChain, dItems, big, m1, k1, hb, at1]) (by simp) rfl ?_
    refine sq_set (.bool (decide (0 < j ∧ mixZ (c + 5 * (j : Int)) 9931 4 = 0))) ?_ (by simp) rfl ?_
    · rcases Nat.eq_zero_or_pos j with z | z
      · subst z
        simp [view, startE, mk, d2, dVar, dC, dB, dT, bAnd, bOr, bNot, dIf, dAndV, dOrV, dNotV, dCons, dNil, dTup, dLst, dCall, dM, dSl, dPt, dNoP, oEq, oNe, oIn, oNi, Res.need, dChain, dItems, big]
      · have z' : (0 : Int) < (j : Int) := by omega
        simp [view, startE, mk, d2, dVar, dC, dB, dT, bAnd, bOr, bNot, dIf, dAndV, dOrV, dNotV, dCons, dNil, dTup, dLst, dCall, dM, dSl, dPt, dNoP, oEq, oNe, oIn, oNi, Res.need, dChain, dItems, big, m2, k2, z, z']
    · have key : textL c w (j + 1) = textL c w j ++ [if 0 < j ∧ mixZ (c + 5 * (j : Int)) 9931 4 = 0 then (textL c w j).getD (j - 1) 0 else w.getD (mixZ (c + 23 * (j : Int)) 9941 (w.length : Nat)).toNat 0] := rfl
      refine st_set (.str (textL c w (j + 1))) ?_ (by simp) rfl ⟨by omega, _, _, _, rfl⟩
      rw [key]
      by_cases q : 0 < j ∧ mixZ (c + 5 * (j : Int)) 9931 4 = 0
      · have at2 : atI (textL c w j) (-1) = some ((textL c w j).getD (j - 1) 0) := by
          unfold atI ixN
          rw [if_neg (by decide), if_pos (by rw [tl]; omega)]
          have e : (-1 + ((textL c w j).length : Int)).toNat = j - 1 := by rw [tl]; omega
          have hh := List.getElem?_eq_getElem (l := textL c w j) (i := j - 1) (by rw [tl]; omega)
          rw [e, List.getD_eq_getElem?_getD]
          show (textL c w j)[j - 1]? = some (((textL c w j)[j - 1]?).getD 0)
          rw [hh]
          rfl
        simp [view, startE, mk, d2, dVar, dC, dB, dT, bAnd, bOr, bNot, dIf, dAndV, dOrV, dNotV, dCons, dNil, dTup, dLst, dCall, dM, dSl, dPt, dNoP, oEq, oNe, oIn, oNi, Res.need, dChain, dItems, big, q, at2, tb, tb1]
      · simp [view, startE, mk, d2, dVar, dC, dB, dT, bAnd, bOr, bNot, dIf, dAndV, dOrV, dNotV, dCons, dNil, dTup, dLst, dCall, dM, dSl, dPt, dNoP, oEq, oNe, oIn, oNi, Res.need, dChain, dItems, big, q, tb, tb1]
  · obtain ⟨_, x4, x5, x6, rfl⟩ := hI
    simp [gRet, view, dVar, ends, textD]
abbrev s_law_text : Stmt := top 13
theorem sc_law_text : FnScope ["cell", "wheel", "most", "here", "n", "letter", "is_again"] ["cell", "wheel", "most"] (defScope s_law_text) := ⟨rfl, rfl, rfl, by decide +kernel, rfl, by decide +kernel, by decide +kernel⟩
theorem ok_law_text {f : Addr} {fd : FuncData} (F : Fun K "_law_text" "_law_text" s_law_text f fd) (c_law_mix : Cal P w K mg base cl 1 "_law_mix" 3 F_law_mix) (z_range : mg "range" = none) (z_len : mg "len" = none) : FnOk P w K mg base (L2.CX P w) 2 f fd ["cell", "wheel", "most"] (spD K cl 3 F_law_text) := by
  refine okD F sc_law_text (by decide) (fun cdv A outer s H E hr => ?_)
  have hu := hu64 hr
  exact ⟨_, g_law_text, (b_cons (s_set (i := 3) q_str sc_law_text.nd rfl (by first | exact Or.inl rfl | exact Or.inr rfl))
      (b_cons (s_for (passes_of rfl) rfl (i_range1 z_range (a_cons (QF.qe (q_fn c_law_mix (hr.mono (by decide)) (takes_of rfl rfl rfl rfl) (a_cons (q_var 0 (pv 0)) (a_cons (QF.qe q_int) (a_cons (QF.qe (q_add (q_var 2 (pv 2)) (QF.qe q_int))) a_nil))))) a_nil)) (g_name (i := 4) sc_law_text.nd rfl (by first | exact Or.inl rfl | exact Or.inr rfl)) (b_cons (s_set (i := 5) (q_sub_ (q_var 1 (pv 1)) (QF.qe (q_fn c_law_mix (hr.mono (by decide)) (takes_of rfl rfl rfl rfl) (a_cons (QF.qe (q_add (q_var 0 (pv 0)) (QF.qe (q_mul (QF.qe q_int) (q_var 4 (pv 4)))))) (a_cons (QF.qe q_int) (a_cons (QF.qe (q_len z_len (a_cons (q_var 1 (pv 1)) a_nil))) a_nil)))))) sc_law_text.nd rfl (by first | exact Or.inl rfl | exact Or.inr rfl))
      (b_cons (s_set (i := 6) (v_and (QF.qe (q_gt (q_var 4 (pv 4)) (QF.qe q_int))) (v_one (q_eq hu (QF.qe (q_fn c_law_mix (hr.mono (by decide)) (takes_of rfl rfl rfl rfl) (a_cons (QF.qe (q_add (q_var 0 (pv 0)) (QF.qe (q_mul (QF.qe q_int) (q_var 4 (pv 4)))))) (a_cons (QF.qe q_int) (a_cons (QF.qe q_int) a_nil))))) (QF.qe q_int)))) sc_law_text.nd rfl (by first | exact Or.inl rfl | exact Or.inr rfl))
      (b_one (s_set (i := 3) (q_add (q_var 3 (pv 3)) (QF.qe (f_if (t_val (q_var 6 (pv 6))) (q_sub_ (q_var 3 (pv 3)) (QF.qe (q_neg (QF.qe q_int)))) (QE.qn (q_var 5 (pv 5)))))) sc_law_text.nd rfl (by first | exact Or.inl rfl | exact Or.inr rfl))))))
      (b_one (s_ret (QE.qn (q_var 3 (pv 3))))))), fun ds hl hne => rd_law_text hl hne⟩
def g_law_texts : DS :=
  (gRet (fun δ => ((dCons (dLc [3] (fun δ => ((dCons (dCall 3 F_law_mix (dCons (dVar 0) (dCons (dC (.int 9929)) (dCons (d2 oAdd (dVar 2) (dC (.int 1))) dNil)))) dNil) δ).bind iR1) (hName 3) bYes (dCall 3 F_law_text (dCons (d2 oAdd (dVar 0) (d2 oMul (dC (.int 101)) (dVar 3))) (dCons (dVar 1) (dCons (dC (.int 12)) dNil))))) dNil) δ).bind cTuple))
theorem rd_law_texts {ds : List D} (hl : ds.length = 3) (hne : F_law_texts ds ≠ .stuck) : g_law_texts (ends (F_law_texts ds)) (startE 4 ds) := by
  unfold g_law_texts
  obtain ⟨c, w, m, rfl, h1, h2, h3, h4⟩ := sh_law_texts hne
  have eF : F_law_texts [.int c, .str w, .int m] = .ok (tsD (textsL c w m)) := need_ok ⟨h1, h2, h3, h4⟩ _
  rw [eF]
  have l0 := mix_lo c 9929 (m := m + 1) (by omega)
  have l1 := mix_hi c 9929 (m := m + 1) (by omega)
  have e1 : F_law_mix [.int c, .int 9929, .int (m + 1)] = .ok (.int (mixZ c 9929 (m + 1))) := mix_ok (by decide) (by decide) (by omega)
  have lb : (mixZ c 9929 (m + 1)).natAbs ≤ 1000000 := by omega
  have lc : dLc [3] (fun δ => ((dCons (dCall 3 F_law_mix (dCons (dVar 0) (dCons (dC (.int 9929)) (dCons (d2 oAdd (dVar 2) (dC (.int 1))) dNil)))) dNil) δ).bind iR1) (hName 3) bYes (dCall 3 F_law_text (dCons (d2 oAdd (dVar 0) (d2 oMul (dC (.int 101)) (dVar 3))) (dCons (dVar 1) (dCons (dC (.int 12)) dNil)))) [some (.int c), some (.str w), some (.int m), none] = .ok (.list ((textsL c w m).map D.str)) := by
    unfold dLc
    have e2 : (fun δ => ((dCons (dCall 3 F_law_mix (dCons (dVar 0) (dCons (dC (.int 9929)) (dCons (d2 oAdd (dVar 2) (dC (.int 1))) dNil)))) dNil) δ).bind iR1) [some (.int c), some (.str w), some (.int m), none] = .ok (rng 0 (textsN c m)) := by
      simp [dCons, dNil, d2, dC, dVar, dCall, e1, Res.need, big, lb, textsN]
    rw [e2, Res.ok_bind, need_ok (by rw [rng_len]; have := textsN_le (c := c) h3; unfold big; omega), compM_map (h := fun d => match d with | .int i => .str (textD (c + 101 * i) w 12) | _ => .none)]
    · unfold rng textsL
      rw [List.map_map, List.map_map]
      show Res.ok (D.list _) = _
      congr 2
      apply List.map_congr_left
      intro n _
      simp
    · intro d hd
      unfold rng at hd
      obtain ⟨n, hn, rfl⟩ := List.mem_map.mp hd
      have k1 : smallI 101 ∨ smallI (n : Int) := Or.inl (by unfold smallI; decide)
      have t1 : F_law_text [.int (c + 101 * (n : Int)), .str w, .int 12] = .ok (.str (textD (c + 101 * (n : Int)) w 12)) := need_ok ⟨h1, h2, by decide, by decide⟩ _
      simp [compOne, hName, wipeD, bYes, d2, dCall, dCons, dNil, dVar, dC, Res.need, k1, t1]
  exact DL.st_ret (tsD (textsL c w m)) (call1 lc rfl) rfl
abbrev s_law_texts : Stmt := top 14
theorem sc_law_texts : FnScope ["cell", "wheel", "most", "n"] ["cell", "wheel", "most"] (defScope s_law_texts) := ⟨rfl, rfl, rfl, by decide +kernel, rfl, by decide +kernel, by decide +kernel⟩
theorem ok_law_texts {f : Addr} {fd : FuncData} (F : Fun K "_law_texts" "_law_texts" s_law_texts f fd) (c_law_text : Cal P w K mg base cl 2 "_law_text" 3 F_law_text) (c_law_mix : Cal P w K mg base cl 1 "_law_mix" 3 F_law_mix) (z_tuple : mg "tuple" = none) (z_range : mg "range" = none) : FnOk P w K mg base (L2.CX P w) 3 f fd ["cell", "wheel", "most"] (spD K cl 3 F_law_texts) := by
  refine okD F sc_law_texts (by decide) (fun cdv A outer s H E hr => ?_)
  have hu := hu64 hr
  exact ⟨_, g_law_texts, (b_one (s_ret (q_tuple z_tuple (a_cons (QF.qe (q_lc (own := [("n", 3)]) rfl sc_law_texts.nd (QI.qj (i_range1 z_range (a_cons (QF.qe (q_fn c_law_mix (hr.mono (by decide)) (takes_of rfl rfl rfl rfl) (a_cons (q_var 0 (pv 0)) (a_cons (QF.qe q_int) (a_cons (QF.qe (q_add (q_var 2 (pv 2)) (QF.qe q_int))) a_nil))))) a_nil))) (blkOk_by (N := ["cell", "wheel", "most", "n"]) (sc := defScope s_law_texts) (by decide +kernel)) (fun _ _ _ _ _ => ⟨_, (h_name (i := 3) sc_law_texts.nd rfl (by first | exact Or.inl rfl | exact Or.inr rfl) (by decide))⟩) (fun _ _ _ _ _ => ⟨_, ts_nil⟩) (fun _ _ _ _ _ => ⟨_, (QF.qe (q_fn c_law_text (hr.mono (by decide)) takes0 (a_cons (QF.qe (q_add (q_var 0 (pv 0)) (QF.qe (q_mul (QF.qe q_int) (q_var 3 (pv 3)))))) (a_cons (q_var 1 (pv 1)) (a_cons (QF.qe q_int) a_nil)))))⟩))) a_nil)))), fun ds hl hne => rd_law_texts hl hne⟩
def g_law_manner : DS :=
  (gRet (dTup (dCons (d2 oEq (dCall 3 F_law_mix (dCons (dVar 0) (dCons (dC (.int 9923)) (dCons (dC (.int 2)) dNil)))) (dC (.int 0))) (dCons (d2 oEq (dCall 3 F_law_mix (dCons (dVar 0) (dCons (dC (.int 9907)) (dCons (dC (.int 2)) dNil)))) (dC (.int 0))) dNil))))
theorem rd_law_manner {ds : List D} (hl : ds.length = 1) (hne : F_law_manner ds ≠ .stuck) : g_law_manner (ends (F_law_manner ds)) (startE 1 ds) := by
  unfold g_law_manner
  obtain ⟨c, rfl⟩ := sh_law_manner hne
  have m1 : F_law_mix [.int c, .int 9923, .int 2] = .ok (.int (mixZ c 9923 2)) := mix_ok (by decide) (by decide) (by decide)
  have m2 : F_law_mix [.int c, .int 9907, .int 2] = .ok (.int (mixZ c 9907 2)) := mix_ok (by decide) (by decide) (by decide)
  refine st_ret (.tuple [.bool (mannerB c), .bool (mannerF c)]) ?_ rfl
  simp [view, startE, mk, d2, dVar, dC, dB, dT, bAnd, bOr, bNot, dIf, dAndV, dOrV, dNotV, dCons, dNil, dTup, dLst, dCall, dM, dSl, dPt, dNoP, oEq, oNe, oIn, oNi, Res.need, dChain, dItems, big, m1, m2, mannerB, mannerF]
abbrev s_law_manner : Stmt := top 15
theorem sc_law_manner : FnScope ["cell"] ["cell"] (defScope s_law_manner) := ⟨rfl, rfl, rfl, by decide +kernel, rfl, by decide +kernel, by decide +kernel⟩
theorem ok_law_manner {f : Addr} {fd : FuncData} (F : Fun K "_law_manner" "_law_manner" s_law_manner f fd) (c_law_mix : Cal P w K mg base cl 1 "_law_mix" 3 F_law_mix) : FnOk P w K mg base (L2.CX P w) 2 f fd ["cell"] (spD K cl 1 F_law_manner) := by
  refine okD F sc_law_manner (by decide) (fun cdv A outer s H E hr => ?_)
  have hu := hu64 hr
  exact ⟨_, g_law_manner, (b_one (s_ret (q_tup (a_cons (QF.qe (q_eq hu (QF.qe (q_fn c_law_mix (hr.mono (by decide)) (takes_of rfl rfl rfl rfl) (a_cons (q_var 0 (pv 0)) (a_cons (QF.qe q_int) (a_cons (QF.qe q_int) a_nil))))) (QF.qe q_int))) (a_cons (QF.qe (q_eq hu (QF.qe (q_fn c_law_mix (hr.mono (by decide)) (takes_of rfl rfl rfl rfl) (a_cons (q_var 0 (pv 0)) (a_cons (QF.qe q_int) (a_cons (QF.qe q_int) a_nil))))) (QF.qe q_int))) a_nil))))), fun ds hl hne => rd_law_manner hl hne⟩
abbrev s_law_odd : Stmt := top 16
theorem sc_law_odd : FnScope ["thing", "cell", "spot", "some"] ["thing", "cell"] (defScope s_law_odd) := ⟨rfl, rfl, rfl, by decide +kernel, rfl, by decide +kernel, by decide +kernel⟩
theorem st_law_odd {n : Nat} {f : Addr} {fd : FuncData} (F : Fun K "_law_odd" "_law_odd" s_law_odd f fd) (cRec : Cal P w K mg base cl (n + 2) "_law_odd" 2 (Fr_law_odd n)) (c_law_mix : Cal P w K mg base cl 1 "_law_mix" 3 F_law_mix) (z_isinstance : mg "isinstance" = none) (z_tuple : mg "tuple" = none) (z_str : mg "str" = none) (z_len : mg "len" = none) (z_int : mg "int" = none) (z_list : mg "list" = none) : FnOk P w K mg base (L2.CX P w) (n + 2 + 1) f fd ["thing", "cell"] (spD K cl 2 (Fr_law_odd (n + 1))) := by
  refine okD F sc_law_odd (by decide) (fun cdv A outer s H E hr => ?_)
  have hu := hu64 hr
  exact ⟨_, gOf (x_law_odd (Fr_law_odd n)), (yb_cons (QS.wp [2] (QS.xq (s_if (QW.qt (w_and (t_val (QF.qe (q_isi1 cla_tuple z_isinstance (q_var 0 (pv 0)) z_tuple (by decide +kernel)))) (w_and (t_ne hu (q_var 0 (pv 0)) (QF.qe (q_tup a_nil))) (w_and1 (t_gt (QF.qe (q_fn c_law_mix (hr.mono (by omega)) (takes_of rfl rfl rfl rfl) (a_cons (q_var 1 (pv 1)) (a_cons (QF.qe q_int) (a_cons (QF.qe q_int) a_nil))))) (QF.qe q_int)))))) (yb_cons (QS.xq (s_set (i := 2) (q_fn c_law_mix (hr.mono (by omega)) (takes_of rfl rfl rfl rfl) (a_cons (q_var 1 (pv 1)) (a_cons (QF.qe q_int) (a_cons (QF.qe (q_len z_len (a_cons (q_var 0 (pv 0)) a_nil))) a_nil)))) sc_law_odd.nd rfl (by first | exact Or.inl rfl | exact Or.inr rfl)) snd_set)
      (yb_one (QS.xq (s_ret (q_add (QF.qe (q_add (QF.qe (q_sl (q_var 0 (pv 0)) o_none (o_some (q_var 2 (pv 2))))) (QF.qe (q_tup (a_cons (QF.qe (q_fn cRec hr (takes_of rfl rfl rfl rfl) (a_cons (QF.qe (q_sub_ (q_var 0 (pv 0)) (q_var 2 (pv 2)))) (a_cons (QF.qe (q_add (QF.qe (q_add (q_var 1 (pv 1)) (QF.qe (q_mul (QF.qe q_int) (q_var 2 (pv 2)))))) (QF.qe q_int))) a_nil)))) a_nil))))) (QF.qe (q_sl (q_var 0 (pv 0)) (o_some (QF.qe (q_add (q_var 2 (pv 2)) (QF.qe q_int)))) o_none)))) snd_ret))) yb_nil) (snd_if snd_gOf snd_gOf)))
      (yb_cons (QS.xq (s_set (i := 3) (q_lst (a_cons (QF.qe q_non) (a_cons (QF.qe q_bl) (a_cons (QF.qe q_bl) (a_cons (QF.qe q_int) (a_cons (QF.qe q_int) (a_cons (QF.qe (q_neg (QF.qe q_int))) (a_cons (QF.qe q_int) (a_cons (QF.qe q_int) (a_cons (QF.qe q_int) (a_cons (QF.qe q_int) (a_cons (QF.qe q_str) (a_cons (QF.qe q_str) (a_cons (QF.qe q_str) (a_cons (QF.qe (q_tup a_nil)) (a_cons (QF.qe (q_tup (a_cons (QF.qe q_str) a_nil))) (a_cons (q_fzl (q_lst (a_cons (QF.qe q_int) a_nil))) a_nil))))))))))))))))) sc_law_odd.nd rfl (by first | exact Or.inl rfl | exact Or.inr rfl)) snd_set)
      (yb_cons (QS.xq (s_if (t_val (QF.qe (q_isi1 cla_tuple z_isinstance (q_var 0 (pv 0)) z_tuple (by decide +kernel)))) (yb_one (QS.xq (s_set (i := 3) (q_add (q_var 3 (pv 3)) (QF.qe (q_mulL (QF.qe (q_lst (a_cons (q_fzl (q_list rfl z_list (a_cons (q_var 0 (pv 0)) a_nil))) (a_cons (QF.qe (q_add (q_var 0 (pv 0)) (QF.qe (q_sl (q_var 0 (pv 0)) (o_some (QF.qe (q_neg (QF.qe q_int)))) o_none)))) (a_cons (QF.qe (q_sl (q_var 0 (pv 0)) o_none (o_some (QF.qe (q_neg (QF.qe q_int)))))) (a_cons (QF.qe (q_revA (q_var 0 (pv 0)))) (a_cons (QF.qe (q_sl (q_var 0 (pv 0)) (o_some (QF.qe q_int)) o_none)) (a_cons (QF.qe (q_tup (a_cons (q_var 0 (pv 0)) a_nil))) a_nil)))))))) (QF.qe q_int)))) sc_law_odd.nd rfl (by first | exact Or.inl rfl | exact Or.inr rfl)) snd_set)) (yb_one (QS.xq (s_if (t_val (QF.qe (q_isi1 cla_str z_isinstance (q_var 0 (pv 0)) z_str (by decide +kernel)))) (yb_one (QS.xq (s_set (i := 3) (q_add (q_var 3 (pv 3)) (QF.qe (q_mulL (QF.qe (q_lst (a_cons (QF.qe (q_add (q_var 0 (pv 0)) (QF.qe q_str))) (a_cons (QF.qe (q_sl (q_var 0 (pv 0)) o_none (o_some (QF.qe (q_neg (QF.qe q_int)))))) (a_cons (QF.qe (q_upper (q_var 0 (pv 0)))) (a_cons (QF.qe (q_add (q_var 0 (pv 0)) (QF.qe q_str))) (a_cons (QF.qe (q_mulS (q_var 0 (pv 0)) (QF.qe q_int))) (a_cons (q_fzl (q_lst (a_cons (q_var 0 (pv 0)) a_nil))) (a_cons (QF.qe (q_add (q_var 0 (pv 0)) (QF.qe (q_sl (q_var 0 (pv 0)) o_none (o_some (QF.qe q_int)))))) a_nil))))))))) (QF.qe q_int)))) sc_law_odd.nd rfl (by first | exact Or.inl rfl | exact Or.inr rfl)) snd_set)) (yb_one (QS.xq (s_if (t_val (QF.qe (q_isi1 cla_int z_isinstance (q_var 0 (pv 0)) z_int (by decide +kernel)))) (yb_one (QS.xq (s_set (i := 3) (q_add (q_var 3 (pv 3)) (QF.qe (q_mulL (QF.qe (q_lst (a_cons (QF.qe (q_addB (q_var 0 (pv 0)) (QF.qe q_int))) (a_cons (QF.qe (q_subB (q_var 0 (pv 0)) (QF.qe q_int))) (a_cons (QF.qe (q_subI (QF.qe q_int) (q_var 0 (pv 0)))) (a_cons (QF.qe (q_tup (a_cons (q_var 0 (pv 0)) a_nil))) (a_cons (QF.qe (q_addB (q_var 0 (pv 0)) (QF.qe q_int))) (a_cons (QF.qe (q_mulB (q_var 0 (pv 0)) (QF.qe q_int))) a_nil)))))))) (QF.qe q_int)))) sc_law_odd.nd rfl (by first | exact Or.inl rfl | exact Or.inr rfl)) snd_set)) yb_nil) (snd_if snd_gOf snd_gOf)))) (snd_if snd_gOf snd_gOf)))) (snd_if snd_gOf snd_gOf))
      (yb_one (QS.xq (s_ret (q_sub_ (q_var 3 (pv 3)) (QF.qe (q_fn c_law_mix (hr.mono (by omega)) (takes_of rfl rfl rfl rfl) (a_cons (q_var 1 (pv 1)) (a_cons (QF.qe q_int) (a_cons (QF.qe (q_len z_len (a_cons (q_var 3 (pv 3)) a_nil))) a_nil))))))) snd_ret))))), fun ds hl hne => runX_rd hl hne⟩
theorem okr_law_odd {f : Addr} {fd : FuncData} (F : Fun K "_law_odd" "_law_odd" s_law_odd f fd) (hm : mg "_law_odd" = some (.ref f)) (hk : PySem.W.keepIn K (.ref f) = true) (hb : Binds K fd ["thing", "cell"] []) (c_law_mix : Cal P w K mg base cl 1 "_law_mix" 3 F_law_mix) (z_isinstance : mg "isinstance" = none) (z_tuple : mg "tuple" = none) (z_str : mg "str" = none) (z_len : mg "len" = none) (z_int : mg "int" = none) (z_list : mg "list" = none) : ∀ n, FnOk P w K mg base (L2.CX P w) (n + 2) f fd ["thing", "cell"] (spD K cl 2 (Fr_law_odd n))
  | 0 => ok_stuck
  | n + 1 => by
    have z := st_law_odd F ⟨f, fd, _, okr_law_odd F hm hk hb c_law_mix z_isinstance z_tuple z_str z_len z_int z_list n, hm, hk, hb⟩ c_law_mix z_isinstance z_tuple z_str z_len z_int z_list
    have e : n + 2 + 1 = n + 1 + 2 := by omega
    rw [e] at z
    exact z
theorem ok_law_odd {f : Addr} {fd : FuncData} (F : Fun K "_law_odd" "_law_odd" s_law_odd f fd) (hm : mg "_law_odd" = some (.ref f)) (hk : PySem.W.keepIn K (.ref f) = true) (hb : Binds K fd ["thing", "cell"] []) (c_law_mix : Cal P w K mg base cl 1 "_law_mix" 3 F_law_mix) (z_isinstance : mg "isinstance" = none) (z_tuple : mg "tuple" = none) (z_str : mg "str" = none) (z_len : mg "len" = none) (z_int : mg "int" = none) (z_list : mg "list" = none) : FnOk P w K mg base (L2.CX P w) 8 f fd ["thing", "cell"] (spD K cl 2 F_law_odd) := okr_law_odd F hm hk hb c_law_mix z_isinstance z_tuple z_str z_len z_int z_list 6
abbrev s_law_is_told : Stmt := top 20
theorem sc_law_is_told : FnScope ["said", "due"] ["said", "due"] (defScope s_law_is_told) := ⟨rfl, rfl, rfl, by decide +kernel, rfl, by decide +kernel, by decide +kernel⟩
theorem ok_law_is_told {f : Addr} {fd : FuncData} (F : Fun K "_law_is_told" "_law_is_told" s_law_is_told f fd)  : FnOk P w K mg base (L2.CX P w) 1 f fd ["said", "due"] (spD K cl 2 F_law_is_told) := by
  refine okD F sc_law_is_told (by decide) (fun cdv A outer s H E hr => ?_)
  have hu := hu64 hr
  have h65 := hu65 hr
  exact ⟨_, gOf x_law_is_told, (yb_one (QS.xq (s_ret (v_or (QF.qe (v_and (QF.qe (q_isB (q_var 0 (pv 0)) (QF.qe q_bl))) (v_one (QE.qn (q_var 1 (pv 1)))))) (v_one (v_and (QF.qe (q_isB (q_var 0 (pv 0)) (QF.qe q_bl))) (v_one (v_not (q_var 1 (pv 1)))))))) snd_ret)), fun ds hl hne => runX_rd hl hne⟩
abbrev s_is_wheel : Stmt := top 5
theorem sc_is_wheel : FnScope ["thing", "letter"] ["thing"] (defScope s_is_wheel) := ⟨rfl, rfl, rfl, by decide +kernel, rfl, by decide +kernel, by decide +kernel⟩
theorem ok_is_wheel {f : Addr} {fd : FuncData} (F : Fun K "is_wheel" "is_wheel" s_is_wheel f fd) (z_all : mg "all" = none) (z_isinstance : mg "isinstance" = none) (z_str : mg "str" = none) (z_len : mg "len" = none) (z_set : mg "set" = none) (c_MOST_LETTERS : GI mg "MOST_LETTERS" 8) (c_LETTERS : GS mg "LETTERS" (Str.ofString "abcdefghijklmnopqrstuvwxyz")) : FnOk P w K mg base (L2.CX P w) 1 f fd ["thing"] (spD K cl 1 F_is_wheel) := by
  refine okD F sc_is_wheel (by decide) (fun cdv A outer s H E hr => ?_)
  have hu := hu64 hr
  have h65 := hu65 hr
  exact ⟨_, gOf x_is_wheel, (yb_cons (QS.xq (s_if (QW.qt (w_or (t_not (t_val (QF.qe (q_isi1 cla_str z_isinstance (q_var 0 (pv 0)) z_str (by decide +kernel))))) (w_or1 (t_not (t_chain or_le or_le sim_cmp sim_cmp (oCmp_ne _ _) (oCmp_ne _ _) (QF.qe q_int) (QF.qe (q_len z_len (a_cons (q_var 0 (pv 0)) a_nil))) (QF.qe (q_globI c_MOST_LETTERS))))))) (yb_one (QS.xq (s_ret q_bl) snd_ret)) yb_nil) (snd_if snd_gOf snd_gOf))
      (yb_one (QS.xq (s_ret (v_and (QF.qe (q_all rfl z_all (a_cons (QF.qe (q_lc (own := [("letter", 1)]) rfl sc_is_wheel.nd (j_any (q_var 0 (pv 0))) (blkOk_by (N := ["thing", "letter"]) (sc := defScope s_is_wheel) (by decide +kernel)) (fun _ _ _ _ _ => ⟨_, (h_name (i := 1) sc_is_wheel.nd rfl (by first | exact Or.inl rfl | exact Or.inr rfl) (by decide))⟩) (fun _ _ _ _ _ => ⟨_, ts_nil⟩) (fun _ _ _ _ _ => ⟨_, (QF.qe (q_in (q_var 1 (pv 1)) (QF.qe (q_globS c_LETTERS))))⟩))) a_nil))) (v_one (q_eq hu (QF.qe (q_lenset rfl z_len z_set (q_var 0 (pv 0)))) (QF.qe (q_len z_len (a_cons (q_var 0 (pv 0)) a_nil))))))) snd_ret))), fun ds hl hne => runX_rd hl hne⟩
abbrev s_law_is_wheel : Stmt := top 17
theorem sc_law_is_wheel : FnScope ["thing", "sign", "n"] ["thing"] (defScope s_law_is_wheel) := ⟨rfl, rfl, rfl, by decide +kernel, rfl, by decide +kernel, by decide +kernel⟩
theorem ok_law_is_wheel {f : Addr} {fd : FuncData} (F : Fun K "_law_is_wheel" "_law_is_wheel" s_law_is_wheel f fd) (z_isinstance : mg "isinstance" = none) (z_str : mg "str" = none) (z_len : mg "len" = none) (z_range : mg "range" = none) : FnOk P w K mg base (L2.CX P w) 1 f fd ["thing"] (spD K cl 1 F_law_is_wheel) := by
  refine okD F sc_law_is_wheel (by decide) (fun cdv A outer s H E hr => ?_)
  have hu := hu64 hr
  have h65 := hu65 hr
  exact ⟨_, gOf x_law_is_wheel, (yb_cons (QS.xq (s_if (QW.qt (w_or (t_not (t_val (QF.qe (q_isi1 cla_str z_isinstance (q_var 0 (pv 0)) z_str (by decide +kernel))))) (w_or (t_not (t_chain or_lt or_lt sim_cmp sim_cmp (oCmp_ne _ _) (oCmp_ne _ _) (QF.qe q_int) (QF.qe (q_len z_len (a_cons (q_var 0 (pv 0)) a_nil))) (QF.qe q_int))) (w_or1 (t_ne hu (QF.qe (q_lc (own := [("sign", 1)]) rfl sc_law_is_wheel.nd (j_any (q_var 0 (pv 0))) (blkOk_by (N := ["thing", "sign", "n"]) (sc := defScope s_law_is_wheel) (by decide +kernel)) (fun _ _ _ _ _ => ⟨_, (h_name (i := 1) sc_law_is_wheel.nd rfl (by first | exact Or.inl rfl | exact Or.inr rfl) (by decide))⟩) (fun _ _ _ _ _ => ⟨_, (ts_one (t_not (t_chain or_le or_le sim_cmp sim_cmp (oCmp_ne _ _) (oCmp_ne _ _) (QF.qe q_str) (q_var 1 (pv 1)) (QF.qe q_str))))⟩) (fun _ _ _ _ _ => ⟨_, (q_var 1 (pv 1))⟩))) (QF.qe (q_lst a_nil))))))) (yb_one (QS.xq (s_ret q_bl) snd_ret)) yb_nil) (snd_if snd_gOf snd_gOf))
      (yb_one (QS.xq (s_ret (q_eq hu (QF.qe (q_lc (own := [("n", 2)]) rfl sc_law_is_wheel.nd (QI.qj (i_range1 z_range (a_cons (QF.qe (q_len z_len (a_cons (q_var 0 (pv 0)) a_nil))) a_nil))) (blkOk_by (N := ["thing", "sign", "n"]) (sc := defScope s_law_is_wheel) (by decide +kernel)) (fun _ _ _ _ _ => ⟨_, (h_name (i := 2) sc_law_is_wheel.nd rfl (by first | exact Or.inl rfl | exact Or.inr rfl) (by decide))⟩) (fun _ _ _ _ _ => ⟨_, (ts_one (t_in (QF.qe (q_sub_ (q_var 0 (pv 0)) (q_var 2 (pv 2)))) (QF.qe (q_sl (q_var 0 (pv 0)) o_none (o_some (q_var 2 (pv 2)))))))⟩) (fun _ _ _ _ _ => ⟨_, (q_var 2 (pv 2))⟩))) (QF.qe (q_lst a_nil)))) snd_ret))), fun ds hl hne => runX_rd hl hne⟩
abbrev s_is_manner : Stmt := top 6
theorem sc_is_manner : FnScope ["thing", "one"] ["thing"] (defScope s_is_manner) := ⟨rfl, rfl, rfl, by decide +kernel, rfl, by decide +kernel, by decide +kernel⟩
theorem ok_is_manner {f : Addr} {fd : FuncData} (F : Fun K "is_manner" "is_manner" s_is_manner f fd) (z_isinstance : mg "isinstance" = none) (z_tuple : mg "tuple" = none) (z_all : mg "all" = none) (z_len : mg "len" = none) (z_bool : mg "bool" = none) : FnOk P w K mg base (L2.CX P w) 1 f fd ["thing"] (spD K cl 1 F_is_manner) := by
  refine okD F sc_is_manner (by decide) (fun cdv A outer s H E hr => ?_)
  have hu := hu64 hr
  have h65 := hu65 hr
  exact ⟨_, gOf x_is_manner, (yb_one (QS.xq (s_ret (v_and (QF.qe (q_isi1 cla_tuple z_isinstance (q_var 0 (pv 0)) z_tuple (by decide +kernel))) (v_and (QF.qe (q_eq hu (QF.qe (q_len z_len (a_cons (q_var 0 (pv 0)) a_nil))) (QF.qe q_int))) (v_one (q_all rfl z_all (a_cons (QF.qe (q_lc (own := [("one", 1)]) rfl sc_is_manner.nd (j_any (q_var 0 (pv 0))) (blkOk_by (N := ["thing", "one"]) (sc := defScope s_is_manner) (by decide +kernel)) (fun _ _ _ _ _ => ⟨_, (h_name (i := 1) sc_is_manner.nd rfl (by first | exact Or.inl rfl | exact Or.inr rfl) (by decide))⟩) (fun _ _ _ _ _ => ⟨_, ts_nil⟩) (fun _ _ _ _ _ => ⟨_, (QF.qe (q_isi1 cla_bool z_isinstance (q_var 1 (pv 1)) z_bool (by decide +kernel)))⟩))) a_nil)))))) snd_ret)), fun ds hl hne => runX_rd hl hne⟩
abbrev s_law_is_manner : Stmt := top 19
theorem sc_law_is_manner : FnScope ["thing"] ["thing"] (defScope s_law_is_manner) := ⟨rfl, rfl, rfl, by decide +kernel, rfl, by decide +kernel, by decide +kernel⟩
theorem ok_law_is_manner {f : Addr} {fd : FuncData} (F : Fun K "_law_is_manner" "_law_is_manner" s_law_is_manner f fd) (z_isinstance : mg "isinstance" = none) (z_bool : mg "bool" = none) (z_tuple : mg "tuple" = none) (z_len : mg "len" = none) : FnOk P w K mg base (L2.CX P w) 1 f fd ["thing"] (spD K cl 1 F_law_is_manner) := by
  refine okD F sc_law_is_manner (by decide) (fun cdv A outer s H E hr => ?_)
  have hu := hu64 hr
  have h65 := hu65 hr
  exact ⟨_, gOf x_law_is_manner, (yb_cons (QS.xq (s_if (QW.qt (w_or (t_not (t_val (QF.qe (q_isi1 cla_tuple z_isinstance (q_var 0 (pv 0)) z_tuple (by decide +kernel))))) (w_or1 (t_ne hu (QF.qe (q_len z_len (a_cons (q_var 0 (pv 0)) a_nil))) (QF.qe q_int))))) (yb_one (QS.xq (s_ret q_bl) snd_ret)) yb_nil) (snd_if snd_gOf snd_gOf))
      (yb_one (QS.xq (s_ret (v_and (QF.qe (q_isi1 cla_bool z_isinstance (QF.qe (q_sub_ (q_var 0 (pv 0)) (QF.qe q_int))) z_bool (by decide +kernel))) (v_one (q_isi1 cla_bool z_isinstance (QF.qe (q_sub_ (q_var 0 (pv 0)) (QF.qe q_int))) z_bool (by decide +kernel))))) snd_ret))), fun ds hl hne => runX_rd hl hne⟩
abbrev s_is_text : Stmt := top 7
theorem sc_is_text : FnScope ["wheel", "thing", "letter"] ["wheel", "thing"] (defScope s_is_text) := ⟨rfl, rfl, rfl, by decide +kernel, rfl, by decide +kernel, by decide +kernel⟩
theorem ok_is_text {f : Addr} {fd : FuncData} (F : Fun K "is_text" "is_text" s_is_text f fd) (z_isinstance : mg "isinstance" = none) (z_str : mg "str" = none) (z_all : mg "all" = none) (z_len : mg "len" = none) (c_LONGEST : GI mg "LONGEST" 30) : FnOk P w K mg base (L2.CX P w) 1 f fd ["wheel", "thing"] (spD K cl 2 F_is_text) := by
  refine okD F sc_is_text (by decide) (fun cdv A outer s H E hr => ?_)
  have hu := hu64 hr
  have h65 := hu65 hr
  exact ⟨_, gOf x_is_text, (yb_one (QS.xq (s_ret (v_and (QF.qe (q_isi1 cla_str z_isinstance (q_var 1 (pv 1)) z_str (by decide +kernel))) (v_and (QF.qe (q_le (QF.qe (q_len z_len (a_cons (q_var 1 (pv 1)) a_nil))) (QF.qe (q_globI c_LONGEST)))) (v_one (q_all rfl z_all (a_cons (QF.qe (q_lc (own := [("letter", 2)]) rfl sc_is_text.nd (j_any (q_var 1 (pv 1))) (blkOk_by (N := ["wheel", "thing", "letter"]) (sc := defScope s_is_text) (by decide +kernel)) (fun _ _ _ _ _ => ⟨_, (h_name (i := 2) sc_is_text.nd rfl (by first | exact Or.inl rfl | exact Or.inr rfl) (by decide))⟩) (fun _ _ _ _ _ => ⟨_, ts_nil⟩) (fun _ _ _ _ _ => ⟨_, (QF.qe (q_in (q_var 2 (pv 2)) (q_var 0 (pv 0))))⟩))) a_nil)))))) snd_ret)), fun ds hl hne => runX_rd hl hne⟩
abbrev s_are_texts : Stmt := top 8
theorem sc_are_texts : FnScope ["wheel", "thing", "one"] ["wheel", "thing"] (defScope s_are_texts) := ⟨rfl, rfl, rfl, by decide +kernel, rfl, by decide +kernel, by decide +kernel⟩
theorem ok_are_texts {f : Addr} {fd : FuncData} (F : Fun K "are_texts" "are_texts" s_are_texts f fd) (c_is_text : Cal P w K mg base cl 1 "is_text" 2 F_is_text) (z_isinstance : mg "isinstance" = none) (z_tuple : mg "tuple" = none) (z_all : mg "all" = none) (z_len : mg "len" = none) (c_MOST_TEXTS : GI mg "MOST_TEXTS" 6) : FnOk P w K mg base (L2.CX P w) 2 f fd ["wheel", "thing"] (spD K cl 2 F_are_texts) := by
  refine okD F sc_are_texts (by decide) (fun cdv A outer s H E hr => ?_)
  have hu := hu64 hr
  have h65 := hu65 hr
  exact ⟨_, gOf x_are_texts, (yb_one (QS.xq (s_ret (v_and (QF.qe (q_isi1 cla_tuple z_isinstance (q_var 1 (pv 1)) z_tuple (by decide +kernel))) (v_and (QF.qe (q_le (QF.qe (q_len z_len (a_cons (q_var 1 (pv 1)) a_nil))) (QF.qe (q_globI c_MOST_TEXTS)))) (v_one (q_all rfl z_all (a_cons (QF.qe (q_lc (own := [("one", 2)]) rfl sc_are_texts.nd (j_any (q_var 1 (pv 1))) (blkOk_by (N := ["wheel", "thing", "one"]) (sc := defScope s_are_texts) (by decide +kernel)) (fun _ _ _ _ _ => ⟨_, (h_name (i := 2) sc_are_texts.nd rfl (by first | exact Or.inl rfl | exact Or.inr rfl) (by decide))⟩) (fun _ _ _ _ _ => ⟨_, ts_nil⟩) (fun _ _ _ _ _ => ⟨_, (QF.qe (q_fn c_is_text (hr.mono (by decide)) takes0 (a_cons (q_var 0 (pv 0)) (a_cons (q_var 2 (pv 2)) a_nil))))⟩))) a_nil)))))) snd_ret)), fun ds hl hne => runX_rd hl hne⟩
abbrev s_law_are_texts : Stmt := top 18
theorem sc_law_are_texts : FnScope ["wheel", "thing", "one", "sign"] ["wheel", "thing"] (defScope s_law_are_texts) := ⟨rfl, rfl, rfl, by decide +kernel, rfl, by decide +kernel, by decide +kernel⟩
theorem ok_law_are_texts {f : Addr} {fd : FuncData} (F : Fun K "_law_are_texts" "_law_are_texts" s_law_are_texts f fd) (z_isinstance : mg "isinstance" = none) (z_tuple : mg "tuple" = none) (z_len : mg "len" = none) (z_str : mg "str" = none) : FnOk P w K mg base (L2.CX P w) 1 f fd ["wheel", "thing"] (spD K cl 2 F_law_are_texts) := by
  refine okD F sc_law_are_texts (by decide) (fun cdv A outer s H E hr => ?_)
  have hu := hu64 hr
  have h65 := hu65 hr
  exact ⟨_, gOf x_law_are_texts, (yb_cons (QS.xq (s_if (QW.qt (w_or (t_not (t_val (QF.qe (q_isi1 cla_tuple z_isinstance (q_var 1 (pv 1)) z_tuple (by decide +kernel))))) (w_or (t_gt (QF.qe (q_len z_len (a_cons (q_var 1 (pv 1)) a_nil))) (QF.qe q_int)) (w_or1 (t_ne hu (QF.qe (q_lc (own := [("one", 2)]) rfl sc_law_are_texts.nd (j_any (q_var 1 (pv 1))) (blkOk_by (N := ["wheel", "thing", "one", "sign"]) (sc := defScope s_law_are_texts) (by decide +kernel)) (fun _ _ _ _ _ => ⟨_, (h_name (i := 2) sc_law_are_texts.nd rfl (by first | exact Or.inl rfl | exact Or.inr rfl) (by decide))⟩) (fun _ _ _ _ _ => ⟨_, (ts_one (t_not (t_val (QF.qe (q_isi1 cla_str z_isinstance (q_var 2 (pv 2)) z_str (by decide +kernel))))))⟩) (fun _ _ _ _ _ => ⟨_, (q_var 2 (pv 2))⟩))) (QF.qe (q_lst a_nil))))))) (yb_one (QS.xq (s_ret q_bl) snd_ret)) yb_nil) (snd_if snd_gOf snd_gOf))
      (yb_cons (QS.wp [2] (QS.xq (s_forN (i := 1) (passes_of rfl) rfl (pv 1) (g_name (i := 2) sc_law_are_texts.nd rfl (by first | exact Or.inl rfl | exact Or.inr rfl)) (QSs.wp [2] (yb_one (QS.xq (s_if (QW.qt (w_or (t_gt (QF.qe (q_len z_len (a_cons (q_var 2 (pv 2)) a_nil))) (QF.qe q_int)) (w_or1 (t_ne hu (QF.qe (q_lc (own := [("sign", 3)]) rfl sc_law_are_texts.nd (j_any (q_var 2 (pv 2))) (blkOk_by (N := ["wheel", "thing", "one", "sign"]) (sc := defScope s_law_are_texts) (by decide +kernel)) (fun _ _ _ _ _ => ⟨_, (h_name (i := 3) sc_law_are_texts.nd rfl (by first | exact Or.inl rfl | exact Or.inr rfl) (by decide))⟩) (fun _ _ _ _ _ => ⟨_, (ts_one (t_ni (q_var 3 (pv 3)) (q_var 0 (pv 0))))⟩) (fun _ _ _ _ _ => ⟨_, (q_var 3 (pv 3))⟩))) (QF.qe (q_lst a_nil)))))) (yb_one (QS.xq (s_ret q_bl) snd_ret)) yb_nil) (snd_if snd_gOf snd_gOf))))) (snd_forN snd_gOf)))
      (yb_one (QS.xq (s_ret q_bl) snd_ret)))), fun ds hl hne => runX_rd hl hne⟩
theorem rd_law {ds : List D} (hl : ds.length = 1) (hne : F_law ds ≠ .stuck) : gOf x_law (ends (F_law ds)) (startE 9 ds) := by
  obtain ⟨ns, rfl⟩ := sh_law hne
  have r := run_law ns
  have z := runX_rd (n := 1) (N := 9) (x := x_law) (ds := [.scr ns]) rfl (by rw [r]; intro z; cases z)
  rw [r] at z
  exact z
abbrev s_law : Stmt := top 21
theorem sc_law : FnScope ["script", "k", "cell", "wheel", "texts", "manner", "some", "j", "thing"] ["script"] (defScope s_law) := ⟨rfl, rfl, rfl, by decide +kernel, rfl, by decide +kernel, by decide +kernel⟩
theorem ok_law {f : Addr} {fd : FuncData} (F : Fun K "law" "law" s_law f fd) (c_law_wheel : Cal P w K mg base cl 2 "_law_wheel" 2 F_law_wheel) (c_law_cell : Cal P w K mg base cl 1 "_law_cell" 2 F_law_cell) (c_law_texts : Cal P w K mg base cl 3 "_law_texts" 3 F_law_texts) (c_law_manner : Cal P w K mg base cl 2 "_law_manner" 1 F_law_manner) (c_law_odd : Cal P w K mg base cl 8 "_law_odd" 2 F_law_odd) (c_law_is_told : Cal P w K mg base cl 1 "_law_is_told" 2 F_law_is_told) (c_is_wheel : Cal P w K mg base cl 1 "is_wheel" 1 F_is_wheel) (c_law_is_wheel : Cal P w K mg base cl 1 "_law_is_wheel" 1 F_law_is_wheel) (c_is_manner : Cal P w K mg base cl 1 "is_manner" 1 F_is_manner) (c_law_is_manner : Cal P w K mg base cl 1 "_law_is_manner" 1 F_law_is_manner) (c_are_texts : Cal P w K mg base cl 2 "are_texts" 2 F_are_texts) (c_law_are_texts : Cal P w K mg base cl 1 "_law_are_texts" 2 F_law_are_texts) (z_range : mg "range" = none) (z_list : mg "list" = none) : FnOk P w K mg base CX0 9 f fd ["script"] (spD K cl 1 F_law) := by
  refine okD0 F sc_law (by decide) ne_law (fun cdv A outer s H E hr => ?_)
  have hu := hu64 hr
  have h65 := hu65 hr
  exact ⟨_, gOf x_law, (yb_cons (QS.wp [1, 2, 3, 4, 5, 6, 7, 8] (QS.xq (s_for PassesOwn.never rfl (i_range1 z_range (a_cons (QF.qe q_int) a_nil)) (g_name (i := 1) sc_law.nd rfl (by first | exact Or.inl rfl | exact Or.inr rfl)) (QSs.wp [1, 2, 3, 4, 5, 6, 7, 8] (yb_cons (QS.xq (s_set (i := 2) (q_add (QF.qe (q_fn c_law_cell (hr.mono (by decide)) takes0 (a_cons (q_var 0 (pv 0)) (a_cons (QF.qe (q_mod (q_var 1 (pv 1)) (QF.qe q_int))) a_nil)))) (QF.qe (q_mul (QF.qe q_int) (q_var 1 (pv 1))))) sc_law.nd rfl (by first | exact Or.inl rfl | exact Or.inr rfl)) snd_set)
      (yb_cons (QS.xq (s_set (i := 3) (q_fn c_law_wheel (hr.mono (by decide)) takes0 (a_cons (q_var 2 (pv 2)) (a_cons (QF.qe q_int) a_nil))) sc_law.nd rfl (by first | exact Or.inl rfl | exact Or.inr rfl)) snd_set)
      (yb_cons (QS.xq (s_par (i := 4) (j := 5) false false (q_fn c_law_texts (hr.mono (by decide)) takes0 (a_cons (q_var 2 (pv 2)) (a_cons (q_var 3 (pv 3)) (a_cons (QF.qe q_int) a_nil)))) (q_fn c_law_manner (hr.mono (by decide)) takes0 (a_cons (q_var 2 (pv 2)) a_nil)) rfl sc_law.nd rfl rfl (by decide) rfl rfl rfl) snd_par)
      (yb_cons (QS.xq (s_own (i := 6) (q_lst (a_cons (q_var 3 (pv 3)) (a_cons (QF.qe (q_add (q_var 3 (pv 3)) (QF.qe (q_sl (q_var 3 (pv 3)) o_none (o_some (QF.qe q_int)))))) (a_cons (QF.qe (q_upper (q_var 3 (pv 3)))) (a_cons (QF.qe q_str) (a_cons (QF.qe q_str) (a_cons (QF.qe q_str) a_nil))))))) sc_law.nd rfl (by first | exact Or.inl rfl | exact Or.inr rfl)) snd_own)
      (yb_cons (QS.xq (s_own (i := 6) (q_add (q_var 6 (pv 6)) (QF.qe (q_lst (a_cons (QF.qe q_str) (a_cons (QF.qe q_str) (a_cons (q_var 4 (pv 4)) (a_cons (q_fzl (q_list rfl z_list (a_cons (q_var 4 (pv 4)) a_nil))) (a_cons (QF.qe (q_mulT (q_var 4 (pv 4)) (QF.qe q_int))) (a_cons (QF.qe (q_tup (a_cons (QF.qe (q_mulS (q_var 3 (pv 3)) (QF.qe q_int))) a_nil))) a_nil))))))))) sc_law.nd rfl (by first | exact Or.inl rfl | exact Or.inr rfl)) snd_own)
      (yb_cons (QS.xq (s_own (i := 6) (q_add (q_var 6 (pv 6)) (QF.qe (q_lst (a_cons (QF.qe (q_tup (a_cons (QF.qe (q_mulS (QF.qe (q_sl (q_var 3 (pv 3)) o_none (o_some (QF.qe q_int)))) (QF.qe q_int))) a_nil))) (a_cons (QF.qe (q_tup (a_cons (QF.qe (q_mulS (QF.qe (q_sl (q_var 3 (pv 3)) o_none (o_some (QF.qe q_int)))) (QF.qe q_int))) a_nil))) (a_cons (QF.qe (q_tup (a_cons (QF.qe (q_add (q_var 3 (pv 3)) (QF.qe q_str))) a_nil))) (a_cons (QF.qe (q_tup (a_cons (QF.qe q_str) (a_cons (QF.qe q_str) a_nil)))) (a_cons (q_var 5 (pv 5)) (a_cons (q_fzl (q_list rfl z_list (a_cons (q_var 5 (pv 5)) a_nil))) a_nil))))))))) sc_law.nd rfl (by first | exact Or.inl rfl | exact Or.inr rfl)) snd_own)
      (yb_cons (QS.xq (s_own (i := 6) (q_add (q_var 6 (pv 6)) (QF.qe (q_lst (a_cons (QF.qe (q_sl (q_var 5 (pv 5)) o_none (o_some (QF.qe q_int)))) (a_cons (QF.qe (q_tup (a_cons (QF.qe q_int) (a_cons (QF.qe q_int) a_nil)))) (a_cons (QF.qe (q_tup (a_cons (QF.qe q_bl) (a_cons (QF.qe q_int) a_nil)))) (a_cons (QF.qe q_non) (a_cons (QF.qe (q_tup a_nil)) a_nil)))))))) sc_law.nd rfl (by first | exact Or.inl rfl | exact Or.inr rfl)) snd_own)
      (yb_cons (QS.xq (s_own (i := 6) (q_add (q_var 6 (pv 6)) (QF.qe (q_lst (a_cons (QF.qe (q_add (q_var 5 (pv 5)) (QF.qe (q_tup (a_cons (QF.qe q_bl) a_nil))))) (a_cons (QF.qe (q_mulT (QF.qe (q_tup (a_cons (QF.qe q_str) a_nil))) (QF.qe q_int))) (a_cons (QF.qe (q_mulT (QF.qe (q_tup (a_cons (QF.qe q_str) a_nil))) (QF.qe q_int))) (a_cons (QF.qe q_int) (a_cons (QF.qe (q_tup (a_cons (q_var 3 (pv 3)) (a_cons (QF.qe q_int) a_nil)))) (a_cons (QF.qe (q_tup (a_cons (QF.qe q_int) a_nil))) a_nil))))))))) sc_law.nd rfl (by first | exact Or.inl rfl | exact Or.inr rfl)) snd_own)
      (yb_cons (QS.wp [7] (QS.xq (s_for PassesOwn.never rfl (i_range1 z_range (a_cons (QF.qe q_int) a_nil)) (g_name (i := 7) sc_law.nd rfl (by first | exact Or.inl rfl | exact Or.inr rfl)) (QSs.wp [7] (yb_one (QS.xq (s_app (i := 6) (pv 6) (QF.qe (q_fn c_law_odd (hr.mono (by decide)) takes0 (a_cons (QF.qe (q_sub_ (QF.qe (q_tup (a_cons (q_var 4 (pv 4)) (a_cons (q_var 5 (pv 5)) a_nil)))) (QF.qe (q_mod (q_var 7 (pv 7)) (QF.qe q_int))))) (a_cons (QF.qe (q_add (QF.qe (q_add (QF.qe (q_fn c_law_cell (hr.mono (by decide)) takes0 (a_cons (q_var 0 (pv 0)) (a_cons (QF.qe q_int) a_nil)))) (QF.qe (q_mul (QF.qe q_int) (q_var 7 (pv 7)))))) (QF.qe (q_mul (QF.qe q_int) (q_var 1 (pv 1)))))) a_nil))))) snd_app)))) (snd_for snd_gOf)))
      (yb_one (QS.wp [8] (QS.xq (fz (i := 6) (s_forN (i := 6) PassesOwn.never rfl (pv 6) (g_name (i := 8) sc_law.nd rfl (by first | exact Or.inl rfl | exact Or.inr rfl)) (QSs.wp [8] (yb_cons (QS.xq (s_if (t_not (t_val (QF.qe (q_fn c_law_is_told (hr.mono (by decide)) takes0 (a_cons (QF.qe (q_fn c_is_wheel (hr.mono (by decide)) takes0 (a_cons (q_var 8 (pv 8)) a_nil))) (a_cons (QF.qe (q_fn c_law_is_wheel (hr.mono (by decide)) takes0 (a_cons (q_var 8 (pv 8)) a_nil))) a_nil)))))) (yb_one (QS.xq (s_ret q_bl) snd_ret)) yb_nil) (snd_if snd_gOf snd_gOf))
      (yb_cons (QS.xq (s_if (t_not (t_val (QF.qe (q_fn c_law_is_told (hr.mono (by decide)) takes0 (a_cons (QF.qe (q_fn c_is_manner (hr.mono (by decide)) takes0 (a_cons (q_var 8 (pv 8)) a_nil))) (a_cons (QF.qe (q_fn c_law_is_manner (hr.mono (by decide)) takes0 (a_cons (q_var 8 (pv 8)) a_nil))) a_nil)))))) (yb_one (QS.xq (s_ret q_bl) snd_ret)) yb_nil) (snd_if snd_gOf snd_gOf))
      (yb_one (QS.xq (s_if (t_not (t_val (QF.qe (q_fn c_law_is_told (hr.mono (by decide)) takes0 (a_cons (QF.qe (q_fn c_are_texts (hr.mono (by decide)) takes0 (a_cons (q_var 3 (pv 3)) (a_cons (q_var 8 (pv 8)) a_nil)))) (a_cons (QF.qe (q_fn c_law_are_texts (hr.mono (by decide)) takes0 (a_cons (q_var 3 (pv 3)) (a_cons (q_var 8 (pv 8)) a_nil)))) a_nil)))))) (yb_one (QS.xq (s_ret q_bl) snd_ret)) yb_nil) (snd_if snd_gOf snd_gOf)))))))) (snd_fz (snd_forN snd_gOf)))))))))))))))) (snd_for snd_gOf)))
      (yb_one (QS.xq (s_ret q_bl) snd_ret))), fun ds hl hne => rd_law hl hne⟩
end
theorem spD_cl {K : Fg} {cl cl2 : Nat → Addr} {n : Nat} {F : List D → Res D} (h : ∀ ds c, F ds ≠ .exc c) : spD K cl n F = spD K cl2 n F := by
  funext vs H Q E
  refine propext ⟨fun z => ?_, fun z => ?_⟩ <;> obtain ⟨ds, h1, h2, h3⟩ := z <;> refine ⟨ds, h1, h2, ?_⟩ <;> (cases e : F ds with
    | ok d => rw [e] at h3; exact h3
    | exc c => exact absurd e (h ds c)
    | stuck => rw [e] at h3; exact h3)
def spLaw (K : Fg) : Sp := spD K (fun _ => 0) 1 F_law
theorem law_sp {K : Fg} {H : Hp} {a : Addr} {ns : List Int} (hS : SqL K H a (ns.map V.int)) : spLaw K [.ref a] H (fun v _ => v = .bl true) fun _ _ _ => False := by
  refine ⟨[.scr ns], ?_, rfl, ?_⟩
  · unfold RpAll Rp RpAll
    exact ⟨_, _, rfl, ⟨a, rfl, hS⟩, rfl⟩
  · intro v H' _ hR _
    unfold Rp at hR
    exact hR
theorem all_mk {P : Program} {w : World} {K : Fg} {h : Heap} {mg : Str → Option Value} {fa : Addr} {tkMOST_LETTERS : Tok} {tkLETTERS : Tok} {tkLONGEST : Tok} {tkMOST_TEXTS : Tok} {f0 : Addr} {od0 an0 : Option Addr} {sl0 : Array (Option Value)} {oc0 kV0 dc0 pm0 cd0 ct0 : Value} {f1 : Addr} {od1 an1 : Option Addr} {sl1 : Array (Option Value)} {oc1 kV1 dc1 pm1 cd1 ct1 : Value} {f2 : Addr} {od2 an2 : Option Addr} {sl2 : Array (Option Value)} {oc2 kV2 dc2 pm2 cd2 ct2 : Value} {f3 : Addr} {od3 an3 : Option Addr} {sl3 : Array (Option Value)} {oc3 kV3 dc3 pm3 cd3 ct3 : Value} {f4 : Addr} {od4 an4 : Option Addr} {sl4 : Array (Option Value)} {oc4 kV4 dc4 pm4 cd4 ct4 : Value} {f5 : Addr} {od5 an5 : Option Addr} {sl5 : Array (Option Value)} {oc5 kV5 dc5 pm5 cd5 ct5 : Value} {f6 : Addr} {od6 an6 : Option Addr} {sl6 : Array (Option Value)} {oc6 kV6 dc6 pm6 cd6 ct6 : Value} {f7 : Addr} {od7 an7 : Option Addr} {sl7 : Array (Option Value)} {oc7 kV7 dc7 pm7 cd7 ct7 : Value} {f8 : Addr} {od8 an8 : Option Addr} {sl8 : Array (Option Value)} {oc8 kV8 dc8 pm8 cd8 ct8 : Value} {f9 : Addr} {od9 an9 : Option Addr} {sl9 : Array (Option Value)} {oc9 kV9 dc9 pm9 cd9 ct9 : Value} {f10 : Addr} {od10 an10 : Option Addr} {sl10 : Array (Option Value)} {oc10 kV10 dc10 pm10 cd10 ct10 : Value} {f11 : Addr} {od11 an11 : Option Addr} {sl11 : Array (Option Value)} {oc11 kV11 dc11 pm11 cd11 ct11 : Value} {f12 : Addr} {od12 an12 : Option Addr} {sl12 : Array (Option Value)} {oc12 kV12 dc12 pm12 cd12 ct12 : Value} {f13 : Addr} {od13 an13 : Option Addr} {sl13 : Array (Option Value)} {oc13 kV13 dc13 pm13 cd13 ct13 : Value} {f14 : Addr} {od14 an14 : Option Addr} {sl14 : Array (Option Value)} {oc14 kV14 dc14 pm14 cd14 ct14 : Value} {f15 : Addr} {od15 an15 : Option Addr} {sl15 : Array (Option Value)} {oc15 kV15 dc15 pm15 cd15 ct15 : Value} (X : K.In h) (G : h.Ns mainGlobals mg) (hfa : mg "law" = some (.ref fa))
    (gcMOST_LETTERS : PySem.W.nsIn K mainGlobals "MOST_LETTERS" = some (some (.int 8 tkMOST_LETTERS)))
    (gcLETTERS : PySem.W.nsIn K mainGlobals "LETTERS" = some (some (.str (Str.ofString "abcdefghijklmnopqrstuvwxyz") tkLETTERS)))
    (gcLONGEST : PySem.W.nsIn K mainGlobals "LONGEST" = some (some (.int 30 tkLONGEST)))
    (gcMOST_TEXTS : PySem.W.nsIn K mainGlobals "MOST_TEXTS" = some (some (.int 6 tkMOST_TEXTS)))
    (a0 : PySem.W.nsIn K mainGlobals "_law_mix" = some (some (.ref f0)))
    (l0 : K.lookup f0 = some ⟨oc0, od0, .func (PySem.W.fnOf "_law_mix" "_law_mix" (defArgs s_law_mix) (defBody s_law_mix) (defScope s_law_mix) .none kV0 dc0 pm0 an0 cd0 ct0), sl0⟩)
    (c0 : PySem.W.codeIn K cd0 "_law_mix" = true)
    (k0 : PySem.W.keepIn K (.ref f0) = true)
    (a1 : PySem.W.nsIn K mainGlobals "_law_wheel" = some (some (.ref f1)))
    (l1 : K.lookup f1 = some ⟨oc1, od1, .func (PySem.W.fnOf "_law_wheel" "_law_wheel" (defArgs s_law_wheel) (defBody s_law_wheel) (defScope s_law_wheel) .none kV1 dc1 pm1 an1 cd1 ct1), sl1⟩)
    (c1 : PySem.W.codeIn K cd1 "_law_wheel" = true)
    (k1 : PySem.W.keepIn K (.ref f1) = true)
    (a2 : PySem.W.nsIn K mainGlobals "_law_cell" = some (some (.ref f2)))
    (l2 : K.lookup f2 = some ⟨oc2, od2, .func (PySem.W.fnOf "_law_cell" "_law_cell" (defArgs s_law_cell) (defBody s_law_cell) (defScope s_law_cell) .none kV2 dc2 pm2 an2 cd2 ct2), sl2⟩)
    (c2 : PySem.W.codeIn K cd2 "_law_cell" = true)
    (k2 : PySem.W.keepIn K (.ref f2) = true)
    (a3 : PySem.W.nsIn K mainGlobals "_law_text" = some (some (.ref f3)))
    (l3 : K.lookup f3 = some ⟨oc3, od3, .func (PySem.W.fnOf "_law_text" "_law_text" (defArgs s_law_text) (defBody s_law_text) (defScope s_law_text) .none kV3 dc3 pm3 an3 cd3 ct3), sl3⟩)
    (c3 : PySem.W.codeIn K cd3 "_law_text" = true)
    (k3 : PySem.W.keepIn K (.ref f3) = true)
    (a4 : PySem.W.nsIn K mainGlobals "_law_texts" = some (some (.ref f4)))
    (l4 : K.lookup f4 = some ⟨oc4, od4, .func (PySem.W.fnOf "_law_texts" "_law_texts" (defArgs s_law_texts) (defBody s_law_texts) (defScope s_law_texts) .none kV4 dc4 pm4 an4 cd4 ct4), sl4⟩)
    (c4 : PySem.W.codeIn K cd4 "_law_texts" = true)
    (k4 : PySem.W.keepIn K (.ref f4) = true)
    (a5 : PySem.W.nsIn K mainGlobals "_law_manner" = some (some (.ref f5)))
    (l5 : K.lookup f5 = some ⟨oc5, od5, .func (PySem.W.fnOf "_law_manner" "_law_manner" (defArgs s_law_manner) (defBody s_law_manner) (defScope s_law_manner) .none kV5 dc5 pm5 an5 cd5 ct5), sl5⟩)
    (c5 : PySem.W.codeIn K cd5 "_law_manner" = true)
    (k5 : PySem.W.keepIn K (.ref f5) = true)
    (a6 : PySem.W.nsIn K mainGlobals "_law_odd" = some (some (.ref f6)))
    (l6 : K.lookup f6 = some ⟨oc6, od6, .func (PySem.W.fnOf "_law_odd" "_law_odd" (defArgs s_law_odd) (defBody s_law_odd) (defScope s_law_odd) .none kV6 dc6 pm6 an6 cd6 ct6), sl6⟩)
    (c6 : PySem.W.codeIn K cd6 "_law_odd" = true)
    (k6 : PySem.W.keepIn K (.ref f6) = true)
    (a7 : PySem.W.nsIn K mainGlobals "_law_is_told" = some (some (.ref f7)))
    (l7 : K.lookup f7 = some ⟨oc7, od7, .func (PySem.W.fnOf "_law_is_told" "_law_is_told" (defArgs s_law_is_told) (defBody s_law_is_told) (defScope s_law_is_told) .none kV7 dc7 pm7 an7 cd7 ct7), sl7⟩)
    (c7 : PySem.W.codeIn K cd7 "_law_is_told" = true)
    (k7 : PySem.W.keepIn K (.ref f7) = true)
    (a8 : PySem.W.nsIn K mainGlobals "is_wheel" = some (some (.ref f8)))
    (l8 : K.lookup f8 = some ⟨oc8, od8, .func (PySem.W.fnOf "is_wheel" "is_wheel" (defArgs s_is_wheel) (defBody s_is_wheel) (defScope s_is_wheel) .none kV8 dc8 pm8 an8 cd8 ct8), sl8⟩)
    (c8 : PySem.W.codeIn K cd8 "is_wheel" = true)
    (k8 : PySem.W.keepIn K (.ref f8) = true)
    (a9 : PySem.W.nsIn K mainGlobals "_law_is_wheel" = some (some (.ref f9)))
    (l9 : K.lookup f9 = some ⟨oc9, od9, .func (PySem.W.fnOf "_law_is_wheel" "_law_is_wheel" (defArgs s_law_is_wheel) (defBody s_law_is_wheel) (defScope s_law_is_wheel) .none kV9 dc9 pm9 an9 cd9 ct9), sl9⟩)
    (c9 : PySem.W.codeIn K cd9 "_law_is_wheel" = true)
    (k9 : PySem.W.keepIn K (.ref f9) = true)
    (a10 : PySem.W.nsIn K mainGlobals "is_manner" = some (some (.ref f10)))
    (l10 : K.lookup f10 = some ⟨oc10, od10, .func (PySem.W.fnOf "is_manner" "is_manner" (defArgs s_is_manner) (defBody s_is_manner) (defScope s_is_manner) .none kV10 dc10 pm10 an10 cd10 ct10), sl10⟩)
    (c10 : PySem.W.codeIn K cd10 "is_manner" = true)
    (k10 : PySem.W.keepIn K (.ref f10) = true)
    (a11 : PySem.W.nsIn K mainGlobals "_law_is_manner" = some (some (.ref f11)))
    (l11 : K.lookup f11 = some ⟨oc11, od11, .func (PySem.W.fnOf "_law_is_manner" "_law_is_manner" (defArgs s_law_is_manner) (defBody s_law_is_manner) (defScope s_law_is_manner) .none kV11 dc11 pm11 an11 cd11 ct11), sl11⟩)
    (c11 : PySem.W.codeIn K cd11 "_law_is_manner" = true)
    (k11 : PySem.W.keepIn K (.ref f11) = true)
    (a12 : PySem.W.nsIn K mainGlobals "is_text" = some (some (.ref f12)))
    (l12 : K.lookup f12 = some ⟨oc12, od12, .func (PySem.W.fnOf "is_text" "is_text" (defArgs s_is_text) (defBody s_is_text) (defScope s_is_text) .none kV12 dc12 pm12 an12 cd12 ct12), sl12⟩)
    (c12 : PySem.W.codeIn K cd12 "is_text" = true)
    (k12 : PySem.W.keepIn K (.ref f12) = true)
    (a13 : PySem.W.nsIn K mainGlobals "are_texts" = some (some (.ref f13)))
    (l13 : K.lookup f13 = some ⟨oc13, od13, .func (PySem.W.fnOf "are_texts" "are_texts" (defArgs s_are_texts) (defBody s_are_texts) (defScope s_are_texts) .none kV13 dc13 pm13 an13 cd13 ct13), sl13⟩)
    (c13 : PySem.W.codeIn K cd13 "are_texts" = true)
    (k13 : PySem.W.keepIn K (.ref f13) = true)
    (a14 : PySem.W.nsIn K mainGlobals "_law_are_texts" = some (some (.ref f14)))
    (l14 : K.lookup f14 = some ⟨oc14, od14, .func (PySem.W.fnOf "_law_are_texts" "_law_are_texts" (defArgs s_law_are_texts) (defBody s_law_are_texts) (defScope s_law_are_texts) .none kV14 dc14 pm14 an14 cd14 ct14), sl14⟩)
    (c14 : PySem.W.codeIn K cd14 "_law_are_texts" = true)
    (k14 : PySem.W.keepIn K (.ref f14) = true)
    (a15 : PySem.W.nsIn K mainGlobals "law" = some (some (.ref f15)))
    (l15 : K.lookup f15 = some ⟨oc15, od15, .func (PySem.W.fnOf "law" "law" (defArgs s_law) (defBody s_law) (defScope s_law) .none kV15 dc15 pm15 an15 cd15 ct15), sl15⟩)
    (c15 : PySem.W.codeIn K cd15 "law" = true)
    (k15 : PySem.W.keepIn K (.ref f15) = true)
    (z_range : PySem.W.nsIn K mainGlobals "range" = some none)
    (z_list : PySem.W.nsIn K mainGlobals "list" = some none)
    (z_len : PySem.W.nsIn K mainGlobals "len" = some none)
    (z_tuple : PySem.W.nsIn K mainGlobals "tuple" = some none)
    (z_isinstance : PySem.W.nsIn K mainGlobals "isinstance" = some none)
    (z_str : PySem.W.nsIn K mainGlobals "str" = some none)
    (z_int : PySem.W.nsIn K mainGlobals "int" = some none)
    (z_all : PySem.W.nsIn K mainGlobals "all" = some none)
    (z_set : PySem.W.nsIn K mainGlobals "set" = some none)
    (z_bool : PySem.W.nsIn K mainGlobals "bool" = some none) :
    ∃ fd : FuncData, (∀ (s : Shared) (v : Value), BindsTo s fd ⟨[v], []⟩ [("script", v)]) ∧ ∀ base : Heap, K.In base → base.Ns mainGlobals mg → FnOk P w K mg base CX0 9 fa fd ["script"] (spLaw K) := by
  have e := hfa.symm.trans (PySem.W.mg_of X G a15)
  cases e
  have z_range := PySem.W.mg_none_of X G z_range
  have z_list := PySem.W.mg_none_of X G z_list
  have z_len := PySem.W.mg_none_of X G z_len
  have z_tuple := PySem.W.mg_none_of X G z_tuple
  have z_isinstance := PySem.W.mg_none_of X G z_isinstance
  have z_str := PySem.W.mg_none_of X G z_str
  have z_int := PySem.W.mg_none_of X G z_int
  have z_all := PySem.W.mg_none_of X G z_all
  have z_set := PySem.W.mg_none_of X G z_set
  have z_bool := PySem.W.mg_none_of X G z_bool
  let cl : Nat → Addr := fun n => match n with  | _ => 0
  refine ⟨PySem.W.fnOf "law" "law" (defArgs s_law) (defBody s_law) (defScope s_law) .none kV15 dc15 pm15 an15 cd15 ct15, fun s v => .of_eq rfl, fun base _ _ => ?_⟩
  have c_MOST_LETTERS : GI mg "MOST_LETTERS" 8 := ⟨_, PySem.W.mg_of X G gcMOST_LETTERS⟩
  have c_LETTERS : GS mg "LETTERS" (Str.ofString "abcdefghijklmnopqrstuvwxyz") := ⟨_, PySem.W.mg_of X G gcLETTERS⟩
  have c_LONGEST : GI mg "LONGEST" 30 := ⟨_, PySem.W.mg_of X G gcLONGEST⟩
  have c_MOST_TEXTS : GI mg "MOST_TEXTS" 6 := ⟨_, PySem.W.mg_of X G gcMOST_TEXTS⟩
  have F0 := fun_mk (st := s_law_mix) l0 c0 k0
  have b0 := F0.binds (ps := ["cell", "prime", "many"]) fun _ _ _ _ _ _ us hl => match us, hl with | [_, _, _], _ => rfl
  have c_law_mix : Cal P w K mg base cl 1 "_law_mix" 3 F_law_mix := ⟨_, _, _, ok_law_mix F0 , PySem.W.mg_of X G a0, k0, b0⟩
  have F1 := fun_mk (st := s_law_wheel) l1 c1 k1
  have b1 := F1.binds (ps := ["cell", "most"]) fun _ _ _ _ _ _ us hl => match us, hl with | [_, _], _ => rfl
  have c_law_wheel : Cal P w K mg base cl 2 "_law_wheel" 2 F_law_wheel := ⟨_, _, _, ok_law_wheel F1 c_law_mix z_range z_list z_len, PySem.W.mg_of X G a1, k1, b1⟩
  have F2 := fun_mk (st := s_law_cell) l2 c2 k2
  have b2 := F2.binds (ps := ["script", "k"]) fun _ _ _ _ _ _ us hl => match us, hl with | [_, _], _ => rfl
  have c_law_cell : Cal P w K mg base cl 1 "_law_cell" 2 F_law_cell := ⟨_, _, _, ok_law_cell F2 z_len, PySem.W.mg_of X G a2, k2, b2⟩
  have F3 := fun_mk (st := s_law_text) l3 c3 k3
  have b3 := F3.binds (ps := ["cell", "wheel", "most"]) fun _ _ _ _ _ _ us hl => match us, hl with | [_, _, _], _ => rfl
  have c_law_text : Cal P w K mg base cl 2 "_law_text" 3 F_law_text := ⟨_, _, _, ok_law_text F3 c_law_mix z_range z_len, PySem.W.mg_of X G a3, k3, b3⟩
  have F4 := fun_mk (st := s_law_texts) l4 c4 k4
  have b4 := F4.binds (ps := ["cell", "wheel", "most"]) fun _ _ _ _ _ _ us hl => match us, hl with | [_, _, _], _ => rfl
  have c_law_texts : Cal P w K mg base cl 3 "_law_texts" 3 F_law_texts := ⟨_, _, _, ok_law_texts F4 c_law_text c_law_mix z_tuple z_range, PySem.W.mg_of X G a4, k4, b4⟩
  have F5 := fun_mk (st := s_law_manner) l5 c5 k5
  have b5 := F5.binds (ps := ["cell"]) fun _ _ _ _ _ _ us hl => match us, hl with | [_], _ => rfl
  have c_law_manner : Cal P w K mg base cl 2 "_law_manner" 1 F_law_manner := ⟨_, _, _, ok_law_manner F5 c_law_mix, PySem.W.mg_of X G a5, k5, b5⟩
  have F6 := fun_mk (st := s_law_odd) l6 c6 k6
  have b6 := F6.binds (ps := ["thing", "cell"]) fun _ _ _ _ _ _ us hl => match us, hl with | [_, _], _ => rfl
  have c_law_odd : Cal P w K mg base cl 8 "_law_odd" 2 F_law_odd := ⟨_, _, _, ok_law_odd F6 (PySem.W.mg_of X G a6) k6 b6 c_law_mix z_isinstance z_tuple z_str z_len z_int z_list, PySem.W.mg_of X G a6, k6, b6⟩
  have F7 := fun_mk (st := s_law_is_told) l7 c7 k7
  have b7 := F7.binds (ps := ["said", "due"]) fun _ _ _ _ _ _ us hl => match us, hl with | [_, _], _ => rfl
  have c_law_is_told : Cal P w K mg base cl 1 "_law_is_told" 2 F_law_is_told := ⟨_, _, _, ok_law_is_told F7 , PySem.W.mg_of X G a7, k7, b7⟩
  have F8 := fun_mk (st := s_is_wheel) l8 c8 k8
  have b8 := F8.binds (ps := ["thing"]) fun _ _ _ _ _ _ us hl => match us, hl with | [_], _ => rfl
  have c_is_wheel : Cal P w K mg base cl 1 "is_wheel" 1 F_is_wheel := ⟨_, _, _, ok_is_wheel F8 z_all z_isinstance z_str z_len z_set c_MOST_LETTERS c_LETTERS, PySem.W.mg_of X G a8, k8, b8⟩
  have F9 := fun_mk (st := s_law_is_wheel) l9 c9 k9
  have b9 := F9.binds (ps := ["thing"]) fun _ _ _ _ _ _ us hl => match us, hl with | [_], _ => rfl
  have c_law_is_wheel : Cal P w K mg base cl 1 "_law_is_wheel" 1 F_law_is_wheel := ⟨_, _, _, ok_law_is_wheel F9 z_isinstance z_str z_len z_range, PySem.W.mg_of X G a9, k9, b9⟩
  have F10 := fun_mk (st := s_is_manner) l10 c10 k10
  have b10 := F10.binds (ps := ["thing"]) fun _ _ _ _ _ _ us hl => match us, hl with | [_], _ => rfl
  have c_is_manner : Cal P w K mg base cl 1 "is_manner" 1 F_is_manner := ⟨_, _, _, ok_is_manner F10 z_isinstance z_tuple z_all z_len z_bool, PySem.W.mg_of X G a10, k10, b10⟩
  have F11 := fun_mk (st := s_law_is_manner) l11 c11 k11
  have b11 := F11.binds (ps := ["thing"]) fun _ _ _ _ _ _ us hl => match us, hl with | [_], _ => rfl
  have c_law_is_manner : Cal P w K mg base cl 1 "_law_is_manner" 1 F_law_is_manner := ⟨_, _, _, ok_law_is_manner F11 z_isinstance z_bool z_tuple z_len, PySem.W.mg_of X G a11, k11, b11⟩
  have F12 := fun_mk (st := s_is_text) l12 c12 k12
  have b12 := F12.binds (ps := ["wheel", "thing"]) fun _ _ _ _ _ _ us hl => match us, hl with | [_, _], _ => rfl
  have c_is_text : Cal P w K mg base cl 1 "is_text" 2 F_is_text := ⟨_, _, _, ok_is_text F12 z_isinstance z_str z_all z_len c_LONGEST, PySem.W.mg_of X G a12, k12, b12⟩
  have F13 := fun_mk (st := s_are_texts) l13 c13 k13
  have b13 := F13.binds (ps := ["wheel", "thing"]) fun _ _ _ _ _ _ us hl => match us, hl with | [_, _], _ => rfl
  have c_are_texts : Cal P w K mg base cl 2 "are_texts" 2 F_are_texts := ⟨_, _, _, ok_are_texts F13 c_is_text z_isinstance z_tuple z_all z_len c_MOST_TEXTS, PySem.W.mg_of X G a13, k13, b13⟩
  have F14 := fun_mk (st := s_law_are_texts) l14 c14 k14
  have b14 := F14.binds (ps := ["wheel", "thing"]) fun _ _ _ _ _ _ us hl => match us, hl with | [_, _], _ => rfl
  have c_law_are_texts : Cal P w K mg base cl 1 "_law_are_texts" 2 F_law_are_texts := ⟨_, _, _, ok_law_are_texts F14 z_isinstance z_tuple z_len z_str, PySem.W.mg_of X G a14, k14, b14⟩
  have F15 := fun_mk (st := s_law) l15 c15 k15
  have r := ok_law (P := P) (w := w) (mg := mg) (base := base) (cl := cl) F15 c_law_wheel c_law_cell c_law_texts c_law_manner c_law_odd c_law_is_told c_is_wheel c_law_is_wheel c_is_manner c_law_is_manner c_are_texts c_law_are_texts z_range z_list
  rw [spD_cl (cl2 := fun _ => 0) ne_law] at r
  exact r
end Lw
open PySem PySem.W PyProof.Rows
set_option maxHeartbeats 0 in
theorem PySem.Challenge.cw_wheelorders_k01_wheels_holds : PySem.Challenge.rw_wheelorders_k01_wheels.Holds := by
  w_on; o_law; k_head; (case hw => w_witness2)
  k_fill
  refine L2.walk_of (l := PySem.Challenge.rw_wheelorders_k01_wheels) (n := 63) (k := 9) (x := "script") (CX := fun _ => L2.CX0) (sp := fun w => Lw.spLaw _) rfl (by decide) rfl ⟨rfl, by decide, by decide⟩ (fun w h Y => PySem.W.kIn_of Y) ?F (fun _ _ a ns hl _ hS => Lw.law_sp hS) (fun _ _ _ _ _ h => h)
  case F =>
    intro w mg fa h KX G hmg
    refine' Lw.all_mk KX G hmg ?gcMOST_LETTERS ?gcLETTERS ?gcLONGEST ?gcMOST_TEXTS ?a0 ?l0 ?c0 ?k0 ?a1 ?l1 ?c1 ?k1 ?a2 ?l2 ?c2 ?k2 ?a3 ?l3 ?c3 ?k3 ?a4 ?l4 ?c4 ?k4 ?a5 ?l5 ?c5 ?k5 ?a6 ?l6 ?c6 ?k6 ?a7 ?l7 ?c7 ?k7 ?a8 ?l8 ?c8 ?k8 ?a9 ?l9 ?c9 ?k9 ?a10 ?l10 ?c10 ?k10 ?a11 ?l11 ?c11 ?k11 ?a12 ?l12 ?c12 ?k12 ?a13 ?l13 ?c13 ?k13 ?a14 ?l14 ?c14 ?k14 ?a15 ?l15 ?c15 ?k15 ?z_range ?z_list ?z_len ?z_tuple ?z_isinstance ?z_str ?z_int ?z_all ?z_set ?z_bool
    (case gcMOST_LETTERS => k_is)
    (case gcLETTERS => k_is)
    (case gcLONGEST => k_is)
    (case gcMOST_TEXTS => k_is)
    (case a0 => k_is)
    (case l0 => k_is)
    (case c0 => k_is)
    (case k0 => k_is)
    (case a1 => k_is)
    (case l1 => k_is)
    (case c1 => k_is)
    (case k1 => k_is)
    (case a2 => k_is)
    (case l2 => k_is)
    (case c2 => k_is)
    (case k2 => k_is)
    (case a3 => k_is)
    (case l3 => k_is)
    (case c3 => k_is)
    (case k3 => k_is)
    (case a4 => k_is)
    (case l4 => k_is)
    (case c4 => k_is)
    (case k4 => k_is)
    (case a5 => k_is)
    (case l5 => k_is)
    (case c5 => k_is)
    (case k5 => k_is)
    (case a6 => k_is)
    (case l6 => k_is)
    (case c6 => k_is)
    (case k6 => k_is)
    (case a7 => k_is)
    (case l7 => k_is)
    (case c7 => k_is)
    (case k7 => k_is)
    (case a8 => k_is)
    (case l8 => k_is)
    (case c8 => k_is)
    (case k8 => k_is)
    (case a9 => k_is)
    (case l9 => k_is)
    (case c9 => k_is)
    (case k9 => k_is)
    (case a10 => k_is)
    (case l10 => k_is)
    (case c10 => k_is)
    (case k10 => k_is)
    (case a11 => k_is)
    (case l11 => k_is)
    (case c11 => k_is)
    (case k11 => k_is)
    (case a12 => k_is)
    (case l12 => k_is)
    (case c12 => k_is)
    (case k12 => k_is)
    (case a13 => k_is)
    (case l13 => k_is)
    (case c13 => k_is)
    (case k13 => k_is)
    (case a14 => k_is)
    (case l14 => k_is)
    (case c14 => k_is)
    (case k14 => k_is)
    (case a15 => k_is)
    (case l15 => k_is)
    (case c15 => k_is)
    (case k15 => k_is)
    (case z_range => k_is)
    (case z_list => k_is)
    (case z_len => k_is)
    (case z_tuple => k_is)
    (case z_isinstance => k_is)
    (case z_str => k_is)
    (case z_int => k_is)
    (case z_all => k_is)
    (case z_set => k_is)
    (case z_bool => k_is)
