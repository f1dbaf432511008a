import PyProof.Rows.All
import Wide.All
import OpenK.AllK
import Wide.FinOn
import HandS.ForMost
import HandS.ForExc
import HandS.Flow
import HandS.Style
import HandS.Deep
import HandS.TupAny
import HandS.IsInst
import HandS.Zip
import HandS.Conv
import HandS.SortKw
import HandS.StrMore
import HandS.TupSets
import PySem.Challenge.RW_faultmarks_k01_rules
set_option Elab.async false
set_option linter.all false
set_option maxRecDepth 100000
/-! FM1: plain data D, its relation to the abstract heap, results, environments, readings of expressions and statements by plain functions. -/
namespace FM
open PySem PySem.Spec PyProof.Rows L2

inductive Res (α : Type) where
  | ok (a : α)
  | exc (c : Nat)
  | bad
def rb {α β : Type} : Res α → (α → Res β) → Res β
  | .ok a, f => f a
  | .exc c, _ => .exc c
  | .bad, _ => .bad
@[simp] theorem rb_ok {α β : Type} (a : α) (f : α → Res β) : rb (.ok a) f = f a := rfl
@[simp] theorem rb_exc {α β : Type} (c : Nat) (f : α → Res β) : rb (.exc c) f = .exc c := rfl
@[simp] theorem rb_bad {α β : Type} (f : α → Res β) : rb (.bad : Res α) f = .bad := rfl
def ofO {α : Type} : Option α → Res α
  | some a => .ok a
  | none => .bad
@[simp] theorem ofO_some {α : Type} (a : α) : ofO (some a) = .ok a := rfl
@[simp] theorem ofO_none {α : Type} : ofO (none : Option α) = .bad := rfl
/-- no exception may come -/
def noX {α : Type} : Res α → Res α
  | .ok a => .ok a
  | _ => .bad
@[simp] theorem noX_ok {α : Type} (a : α) : noX (.ok a) = .ok a := rfl
@[simp] theorem noX_bad {α : Type} : noX (.bad : Res α) = .bad := rfl

/-- plain data -/
inductive D where
  | non | bl (b : Bool) | int (i : Int) | str (l : List Nat) | tup (xs : List D) | lst (xs : List D)
abbrev S (l : List Nat) : Str := ⟨l.toArray⟩
theorem S_toList (x : Str) : S x.cps.toList = x := by cases x; simp [S]

mutual
def Rp (K : PySem.W.Frag) (H : Hp) : D → V → Prop
  | .non, v => v = .non
  | .bl b, v => v = .bl b
  | .int i, v => v = .int i
  | .str l, v => v = .str (S l)
  | .tup ds, v => ∃ a xs, v = .ref a ∧ SqT K H a xs ∧ RpAll K H ds xs
  | .lst ds, v => ∃ a xs, v = .ref a ∧ SqL K H a xs ∧ RpAll K H ds xs
def RpAll (K : PySem.W.Frag) (H : Hp) : List D → List V → Prop
  | [], vs => vs = []
  | d :: ds, vs => ∃ v r, vs = v :: r ∧ Rp K H d v ∧ RpAll K H ds r
end
mutual
def toPy : D → PyData
  | .non => .none
  | .bl b => .bool b
  | .int i => .int i
  | .str l => .str (S l)
  | .tup xs => .tuple (toPyAll xs)
  | .lst xs => .list (toPyAll xs)
def toPyAll : List D → List PyData
  | [] => []
  | d :: ds => toPy d :: toPyAll ds
end
mutual
/-- no list within -/
def D.lf : D → Bool
  | .tup xs => lfAll xs
  | .lst _ => false
  | _ => true
def lfAll : List D → Bool
  | [] => true
  | d :: ds => d.lf && lfAll ds
end
mutual
/-- Python's == -/
def eqv : D → D → Bool
  | .non, .non => true
  | .bl a, .bl b => a == b
  | .bl a, .int j => (if a then 1 else 0) == j
  | .int i, .bl b => i == (if b then 1 else 0)
  | .int i, .int j => i == j
  | .str x, .str y => x == y
  | .lst xs, .lst ys => eqvAll xs ys
  | .tup xs, .tup ys => eqvAll xs ys
  | .non, .bl _ | .non, .int _ | .non, .str _ | .non, .lst _ | .non, .tup _ => false
  | .bl _, .non | .bl _, .str _ | .bl _, .lst _ | .bl _, .tup _ => false
  | .int _, .non | .int _, .str _ | .int _, .lst _ | .int _, .tup _ => false
  | .str _, .non | .str _, .bl _ | .str _, .int _ | .str _, .lst _ | .str _, .tup _ => false
  | .lst _, .non | .lst _, .bl _ | .lst _, .int _ | .lst _, .str _ | .lst _, .tup _ => false
  | .tup _, .non | .tup _, .bl _ | .tup _, .int _ | .tup _, .str _ | .tup _, .lst _ => false
def eqvAll : List D → List D → Bool
  | [], [] => true
  | x :: xs, y :: ys => eqv x y && eqvAll xs ys
  | [], _ :: _ => false
  | _ :: _, [] => false
end
mutual
/-- signs are signs, not too deep -/
def D.okN : Nat → D → Bool
  | _, .str l => l.all (· < 0x110000)
  | 0, .tup _ => false
  | n + 1, .tup xs => okAll n xs
  | 0, .lst _ => false
  | n + 1, .lst xs => okAll n xs
  | _, _ => true
def okAll : Nat → List D → Bool
  | _, [] => true
  | n, d :: ds => d.okN n && okAll n ds
end
section
variable {K : PySem.W.Frag} {H H' : Hp}
theorem Same.sqT {a : Addr} {xs : List V} (e : Same H H') (h : SqT K H a xs) : SqT K H' a xs := by
  rcases h with (h | ⟨o, h⟩) | h
  · exact .inl (.inl (e _ _ h))
  · exact .inl (.inr ⟨o, e _ _ h⟩)
  · exact .inr h
mutual
theorem Rp.mono (s : Same H H') : ∀ {d : D} {v : V}, Rp K H d v → Rp K H' d v
  | .non, _, h => h
  | .bl _, _, h => h
  | .int _, _, h => h
  | .str _, _, h => h
  | .tup ds, _, h => by
    obtain ⟨a, xs, e, q, r⟩ := h
    exact ⟨a, xs, e, Same.sqT s q, RpAll.mono s r⟩
  | .lst ds, _, h => by
    obtain ⟨a, xs, e, q, r⟩ := h
    exact ⟨a, xs, e, s.seq q, RpAll.mono s r⟩
theorem RpAll.mono (s : Same H H') : ∀ {ds : List D} {vs : List V}, RpAll K H ds vs → RpAll K H' ds vs
  | [], _, h => h
  | d :: ds, _, h => by
    obtain ⟨v, r, e, h1, h2⟩ := h
    exact ⟨v, r, e, Rp.mono s h1, RpAll.mono s h2⟩
end
mutual
theorem Rp.dp : ∀ {d : D} {v : V}, Rp K H d v → Dp K H v (toPy d)
  | .non, _, h => by cases h; exact .non
  | .bl _, _, h => by cases h; exact .bl _
  | .int _, _, h => by cases h; exact .int _
  | .str _, _, h => by cases h; exact .str _
  | .tup ds, _, h => by
    obtain ⟨a, xs, rfl, q, r⟩ := h
    exact .tup q (RpAll.dp r)
  | .lst ds, _, h => by
    obtain ⟨a, xs, rfl, q, r⟩ := h
    exact .lst q (RpAll.dp r)
theorem RpAll.dp : ∀ {ds : List D} {vs : List V}, RpAll K H ds vs → DpAll K H vs (toPyAll ds)
  | [], _, h => by cases h; exact .nil
  | d :: ds, _, h => by
    obtain ⟨v, r, rfl, h1, h2⟩ := h
    exact .cons (Rp.dp h1) (RpAll.dp h2)
end
mutual
theorem eqv_py : ∀ (d e : D), PyData.eqv (toPy d) (toPy e) = eqv d e
  | .non, e => by cases e <;> simp [toPy, PyData.eqv, eqv]
  | .bl _, e => by cases e <;> simp [toPy, PyData.eqv, eqv]
  | .int _, e => by cases e <;> simp [toPy, PyData.eqv, eqv]
  | .str x, e => by
    cases e <;> simp [toPy, PyData.eqv, eqv]
    rename_i y
    rw [Bool.eq_iff_iff]
    simp
  | .tup xs, e => by
    cases e <;> simp [toPy, PyData.eqv, eqv]
    exact eqvAll_py xs _
  | .lst xs, e => by
    cases e <;> simp [toPy, PyData.eqv, eqv]
    exact eqvAll_py xs _
theorem eqvAll_py : ∀ (ds es : List D), PyData.eqvAll (toPyAll ds) (toPyAll es) = eqvAll ds es
  | [], es => by cases es <;> simp [toPyAll, PyData.eqvAll, eqvAll]
  | d :: ds, es => by
    cases es with
    | nil => simp [toPyAll, PyData.eqvAll, eqvAll]
    | cons e es => simp [toPyAll, PyData.eqvAll, eqvAll, eqv_py d e, eqvAll_py ds es]
end
mutual
theorem okN_lay : ∀ (n : Nat) (d : D), d.okN n = true → (toPy d).canLay0 = true ∧ (toPy d).depth ≤ n
  | _, .non, _ => by simp [toPy, PyData.canLay0, PyData.depth]
  | _, .bl _, _ => by simp [toPy, PyData.canLay0, PyData.depth]
  | _, .int _, _ => by simp [toPy, PyData.canLay0, PyData.depth]
  | _, .str l, h => by
    simp only [D.okN] at h
    refine ⟨?_, by simp [toPy, PyData.depth]⟩
    simp only [toPy, PyData.canLay0, PyData.strOk, S]
    simpa using h
  | 0, .tup xs, h => by simp [D.okN] at h
  | n + 1, .tup xs, h => by
    simp only [D.okN] at h
    obtain ⟨h1, h2⟩ := okAll_lay n xs h
    exact ⟨by simpa [toPy, PyData.canLay0] using h1, by simpa [toPy, PyData.depth] using h2⟩
  | 0, .lst xs, h => by simp [D.okN] at h
  | n + 1, .lst xs, h => by
    simp only [D.okN] at h
    obtain ⟨h1, h2⟩ := okAll_lay n xs h
    exact ⟨by simpa [toPy, PyData.canLay0] using h1, by simpa [toPy, PyData.depth] using h2⟩
theorem okAll_lay : ∀ (n : Nat) (ds : List D), okAll n ds = true → PyData.canLayAll0 (toPyAll ds) = true ∧ PyData.depthAll (toPyAll ds) ≤ n
  | _, [], _ => by simp [toPyAll, PyData.canLayAll0, PyData.depthAll]
  | n, d :: ds, h => by
    simp only [okAll, Bool.and_eq_true] at h
    obtain ⟨a1, a2⟩ := okN_lay n d h.1
    obtain ⟨b1, b2⟩ := okAll_lay n ds h.2
    simp only [toPyAll, PyData.canLayAll0, PyData.depthAll, a1, b1, Bool.and_self, true_and]
    exact Nat.max_le.mpr ⟨a2, b2⟩
end
theorem ok_shaped {d : D} (h : d.okN 64 = true) : SeqAt.shaped (toPy d) = true := by
  obtain ⟨a, b⟩ := okN_lay 64 d h
  simp [SeqAt.shaped, a, b]

/-! ### lists of data -/
theorem RpAll.nil : RpAll K H [] [] := rfl
theorem RpAll.cons {d : D} {ds : List D} {v : V} {vs : List V} (h : Rp K H d v) (r : RpAll K H ds vs) : RpAll K H (d :: ds) (v :: vs) := ⟨v, vs, rfl, h, r⟩
theorem RpAll.length : ∀ {ds : List D} {vs : List V}, RpAll K H ds vs → ds.length = vs.length
  | [], _, h => by cases h; rfl
  | d :: ds, _, h => by
    obtain ⟨v, r, rfl, _, h2⟩ := h
    simp [RpAll.length h2]
theorem RpAll.get : ∀ {ds : List D} {vs : List V} {i : Nat} {d : D}, RpAll K H ds vs → ds[i]? = some d → ∃ v, vs[i]? = some v ∧ Rp K H d v
  | [], _, _, _, _, e => by simp at e
  | d :: ds, _, 0, _, h, e => by
    obtain ⟨v, r, rfl, h1, _⟩ := h
    simp at e; subst e
    exact ⟨v, by simp, h1⟩
  | d :: ds, _, i + 1, _, h, e => by
    obtain ⟨v, r, rfl, _, h2⟩ := h
    obtain ⟨w, h3, h4⟩ := RpAll.get (i := i) h2 (by simpa using e)
    exact ⟨w, by simpa using h3, h4⟩
theorem RpAll.of_get : ∀ {ds : List D} {vs : List V}, ds.length = vs.length → (∀ (i : Nat) d v, ds[i]? = some d → vs[i]? = some v → Rp K H d v) → RpAll K H ds vs
  | [], [], _, _ => rfl
  | [], _ :: _, h, _ => by simp at h
  | _ :: _, [], h, _ => by simp at h
  | d :: ds, v :: vs, h, q => ⟨v, vs, rfl, q 0 d v (by simp) (by simp), RpAll.of_get (by simpa using h) fun i d' v' e1 e2 => q (i + 1) d' v' (by simpa using e1) (by simpa using e2)⟩
theorem RpAll.get2 {ds : List D} {vs : List V} {i : Nat} {d : D} {v : V} (h : RpAll K H ds vs) (e : ds[i]? = some d) (e2 : vs[i]? = some v) : Rp K H d v := by
  obtain ⟨w, h1, h2⟩ := h.get e
  rw [e2] at h1; cases h1; exact h2
theorem RpAll.append {ds es : List D} {vs ws : List V} (h : RpAll K H ds vs) (h2 : RpAll K H es ws) : RpAll K H (ds ++ es) (vs ++ ws) := by
  have l := h.length
  refine RpAll.of_get (by simp [l, h2.length]) fun i d v e1 e2 => ?_
  by_cases hi : i < ds.length
  · rw [List.getElem?_append_left hi] at e1
    rw [List.getElem?_append_left (by omega)] at e2
    exact h.get2 e1 e2
  · rw [List.getElem?_append_right (by omega)] at e1
    rw [List.getElem?_append_right (by omega), ← l] at e2
    exact h2.get2 e1 e2
theorem RpAll.drop {ds : List D} {vs : List V} (n : Nat) (h : RpAll K H ds vs) : RpAll K H (ds.drop n) (vs.drop n) := by
  refine RpAll.of_get (by simp [h.length]) fun i d v e1 e2 => ?_
  rw [List.getElem?_drop] at e1 e2
  exact h.get2 e1 e2
theorem RpAll.take {ds : List D} {vs : List V} (n : Nat) (h : RpAll K H ds vs) : RpAll K H (ds.take n) (vs.take n) := by
  refine RpAll.of_get (by simp [h.length]) fun i d v e1 e2 => ?_
  rw [List.getElem?_take] at e1 e2
  split at e1
  · rename_i hi
    rw [if_pos hi] at e2
    exact h.get2 e1 e2
  · cases e1
theorem RpAll.reverse {ds : List D} {vs : List V} (h : RpAll K H ds vs) : RpAll K H ds.reverse vs.reverse := by
  refine RpAll.of_get (by simp [h.length]) fun i d v e1 e2 => ?_
  have hi : i < ds.length := by have := (List.getElem?_eq_some_iff.mp e1).1; simpa using this
  rw [List.getElem?_reverse hi] at e1
  rw [List.getElem?_reverse (by rw [← h.length]; exact hi), ← h.length] at e2
  exact h.get2 e1 e2
theorem RpAll.set {ds : List D} {vs : List V} {d : D} {v : V} (n : Nat) (h : RpAll K H ds vs) (h2 : Rp K H d v) : RpAll K H (ds.set n d) (vs.set n v) := by
  refine RpAll.of_get (by simp [h.length]) fun i d' v' e1 e2 => ?_
  by_cases hn : n = i
  · subst hn
    have h1 : n < ds.length := by have := (List.getElem?_eq_some_iff.mp e1).1; simpa using this
    rw [List.getElem?_set_self h1] at e1
    rw [List.getElem?_set_self (by rw [← h.length]; exact h1)] at e2
    cases e1; cases e2; exact h2
  · rw [List.getElem?_set_ne hn] at e1 e2
    exact h.get2 e1 e2

/-! ### a heap without some lists -/
/-- H without what stands at the addresses of O -/
noncomputable def hide (O : Addr → Prop) (H : Hp) : Hp := fun b => open Classical in if O b then none else H b
theorem hide_no {O : Addr → Prop} {b : Addr} (h : ¬ O b) : hide O H b = H b := by unfold hide; rw [if_neg h]
theorem hide_yes {O : Addr → Prop} {b : Addr} (h : O b) : hide O H b = none := by unfold hide; rw [if_pos h]
theorem hide_same (O : Addr → Prop) : Same (hide O H) H := fun b o e => by
  by_cases h : O b
  · rw [hide_yes h] at e; cases e
  · rw [hide_no h] at e; exact e
mutual
theorem Rp.hide {O : Addr → Prop} (hO : ∀ b, O b → (∃ vs, H b = some (.lst vs)) ∨ (∃ ws, H b = some (.dT ws)) ∨ H b = none) : ∀ {d : D} {v : V}, d.lf = true → Rp K H d v → Rp K (hide O H) d v
  | .non, _, _, h => h
  | .bl _, _, _, h => h
  | .int _, _, _, h => h
  | .str _, _, _, h => h
  | .tup ds, _, l, h => by
    obtain ⟨a, xs, e, q, r⟩ := h
    refine ⟨a, xs, e, ?_, RpAll.hide hO (by simpa [D.lf] using l) r⟩
    rcases q with (q | ⟨o, q⟩) | q
    · refine .inl (.inl ?_)
      rw [hide_no, q]
      intro z
      rcases hO a z with ⟨_, z⟩ | ⟨_, z⟩ | z <;> rw [q] at z <;> cases z
    · refine .inl (.inr ⟨o, ?_⟩)
      rw [hide_no, q]
      intro z
      rcases hO a z with ⟨_, z⟩ | ⟨_, z⟩ | z <;> rw [q] at z <;> cases z
    · exact .inr q
  | .lst _, _, l, _ => by simp [D.lf] at l
theorem RpAll.hide {O : Addr → Prop} (hO : ∀ b, O b → (∃ vs, H b = some (.lst vs)) ∨ (∃ ws, H b = some (.dT ws)) ∨ H b = none) : ∀ {ds : List D} {vs : List V}, lfAll ds = true → RpAll K H ds vs → RpAll K (hide O H) ds vs
  | [], _, _, h => h
  | d :: ds, _, l, h => by
    obtain ⟨v, r, e, h1, h2⟩ := h
    simp only [lfAll, Bool.and_eq_true] at l
    exact ⟨v, r, e, Rp.hide hO l.1 h1, RpAll.hide hO l.2 h2⟩
end
theorem lfAll_iff {ds : List D} : lfAll ds = true ↔ ∀ d ∈ ds, d.lf = true := by
  induction ds with
  | nil => simp [lfAll]
  | cons d ds ih => simp [lfAll, ih]
theorem okAll_iff {n : Nat} {ds : List D} : okAll n ds = true ↔ ∀ d ∈ ds, d.okN n = true := by
  induction ds with
  | nil => simp [okAll]
  | cons d ds ih => simp [okAll, ih]
/-- but one address -/
noncomputable abbrev hide1 (a : Addr) (H : Hp) : Hp := hide (fun b => b = a) H
theorem same_new {a : Addr} {o : HO} (h : H a = none) : Same H (upd H a o) := fun b x e => by
  rw [upd_ne (ne_of_none e h)]
  exact e
theorem same_hide1 {a : Addr} {o : HO} (h : H a = none) : Same H (hide1 a (upd H a o)) := fun b x e => by
  have n : b ≠ a := ne_of_none e h
  show hide (fun b => b = a) (upd H a o) b = some x
  rw [hide_no (O := fun b => b = a) n, upd_ne n]
  exact e
end

/-! ### environments -/
inductive Sl where
  | un
  | dat (d : D)
  | own (xs : List D)
  | dct (kvs : List (List Key × D))
abbrev En := List Sl
def Sl.isOwn : Sl → Bool
  | .own _ => true
  | .dct _ => true
  | _ => false
def noOwn (e : En) : Bool := e.all fun s => !s.isOwn
def getE (i : Nat) (e : En) : Res D := match e[i]? with
  | some (.dat d) => .ok d
  | some (.own xs) => .ok (.lst xs)
  | _ => .bad
def SlOk (K : PySem.W.Frag) (H : Hp) (o : Option (Option V)) : Sl → Prop
  | .un => True
  | .dat d => ∃ v, o = some (some v) ∧ Rp K H d v
  | .own xs => ∃ a vs, o = some (some (.ref a)) ∧ H a = some (.lst vs) ∧ RpAll K H xs vs
  | .dct kvs => ∃ a ws, o = some (some (.ref a)) ∧ H a = some (.dT ws) ∧ ws.map (·.1) = kvs.map (·.1) ∧ RpAll K H (kvs.map (·.2)) (ws.map (·.2))
structure EnvOk (K : PySem.W.Frag) (H : Hp) (σ : L2.St) (e : En) : Prop where
  len : σ.length = e.length
  at_ : ∀ (i : Nat) s, e[i]? = some s → SlOk K H σ[i]? s
section
variable {K : PySem.W.Frag} {H H' : Hp}
theorem SlOk.mono {o : Option (Option V)} {s : Sl} (q : Same H H') (h : SlOk K H o s) : SlOk K H' o s := by
  cases s with
  | un => exact h
  | dat d => obtain ⟨v, e, h⟩ := h; exact ⟨v, e, h.mono q⟩
  | own xs => obtain ⟨a, vs, e, h1, h2⟩ := h; exact ⟨a, vs, e, q _ _ h1, h2.mono q⟩
  | dct kvs => obtain ⟨a, vs, e, h1, h2, h3⟩ := h; exact ⟨a, vs, e, q _ _ h1, h2, h3.mono q⟩
theorem EnvOk.mono {σ : L2.St} {e : En} (q : Same H H') (h : EnvOk K H σ e) : EnvOk K H' σ e := ⟨h.len, fun i s z => (h.at_ i s z).mono q⟩
theorem EnvOk.get {σ : L2.St} {e : En} {i : Nat} {d : D} (h : EnvOk K H σ e) (g : getE i e = .ok d) : ∃ v, σ[i]? = some (some v) ∧ Rp K H d v := by
  unfold getE at g
  split at g
  · rename_i x hx
    cases g
    exact h.at_ i _ hx
  · rename_i xs hx
    cases g
    obtain ⟨a, vs, e1, e2, e3⟩ := h.at_ i _ hx
    exact ⟨.ref a, e1, a, vs, rfl, SqL.of e2, e3⟩
  · cases g
theorem EnvOk.set {σ : L2.St} {e : En} {i : Nat} {d : D} {v : V} (h : EnvOk K H σ e) (r : Rp K H d v) : EnvOk K H (σ.set i (some v)) (e.set i (.dat d)) := by
  refine ⟨by simp [h.len], fun j s z => ?_⟩
  by_cases hj : i = j
  · subst hj
    have hi : i < e.length := by have := (List.getElem?_eq_some_iff.mp z).1; simpa using this
    rw [List.getElem?_set_self hi] at z
    cases z
    rw [List.getElem?_set_self (by rw [h.len]; exact hi)]
    exact ⟨v, rfl, r⟩
  · rw [List.getElem?_set_ne hj] at z ⊢
    exact h.at_ j s z
def wipeE (e : En) : List Nat → En
  | [] => e
  | v :: vs => (wipeE e vs).set v .un
theorem wipeE_len (e : En) : ∀ vs : List Nat, (wipeE e vs).length = e.length
  | [] => rfl
  | v :: vs => by unfold wipeE; rw [List.length_set, wipeE_len e vs]
theorem EnvOk.wipe {σ : L2.St} {e : En} (h : EnvOk K H σ e) : ∀ vs : List Nat, EnvOk K H (L2.wipe σ vs) (wipeE e vs)
  | [] => h
  | v :: vs => by
    have ih := EnvOk.wipe h vs
    unfold L2.wipe wipeE
    refine ⟨by simp [ih.len], fun j s z => ?_⟩
    by_cases hj : v = j
    · subst hj
      have hi : v < (wipeE e vs).length := by have := (List.getElem?_eq_some_iff.mp z).1; simpa using this
      rw [List.getElem?_set_self hi] at z
      cases z
      trivial
    · rw [List.getElem?_set_ne hj] at z ⊢
      exact ih.at_ j s z
end

/-! ### readings of expressions -/
abbrev Wx := Nat → L2.St → Hp → Prop
abbrev W0 : Wx := fun _ _ _ => False
def Fin (K : PySem.W.Frag) (W : Wx) (σ : L2.St) (H : Hp) (Q : VK) : Res D → Prop
  | .ok d => ∀ v H', Same H H' → Rp K H' d v → Q v H'
  | .exc c => ∀ H', Same H H' → W c σ H'
  | .bad => False
def FinL (K : PySem.W.Frag) (W : Wx) (σ : L2.St) (H : Hp) (Q : List V → Hp → Prop) : Res (List D) → Prop
  | .ok ds => ∀ vs H', Same H H' → RpAll K H' ds vs → Q vs H'
  | .exc c => ∀ H', Same H H' → W c σ H'
  | .bad => False
def FinB (K : PySem.W.Frag) (W : Wx) (σ : L2.St) (H : Hp) (Q : Bool → Hp → Prop) : Res Bool → Prop
  | .ok b => ∀ H', Same H H' → Q b H'
  | .exc c => ∀ H', Same H H' → W c σ H'
  | .bad => False
/-- a new list -/
def FinN (K : PySem.W.Frag) (W : Wx) (σ : L2.St) (H : Hp) (Q : VK) : Res (List D) → Prop
  | .ok xs => ∀ a vs H', H a = none → Same H H' → H' a = some (.lst vs) → RpAll K (hide1 a H') xs vs → Q (.ref a) H'
  | .exc c => ∀ H', Same H H' → W c σ H'
  | .bad => False
def FinO (K : PySem.W.Frag) (W : Wx) (σ : L2.St) (H : Hp) (Q : Option Int → Hp → Prop) : Res (Option Int) → Prop
  | .ok o => ∀ H', Same H H' → Q o H'
  | .exc c => ∀ H', Same H H' → W c σ H'
  | .bad => False
def tD (K : PySem.W.Frag) (W : Wx) (f : En → Res D) : TE := fun σ H Q => ∃ e, EnvOk K H σ e ∧ Fin K W σ H Q (f e)
def tDs (K : PySem.W.Frag) (W : Wx) (f : En → Res (List D)) : TA := fun σ H Q => ∃ e, EnvOk K H σ e ∧ FinL K W σ H Q (f e)
def tN (K : PySem.W.Frag) (W : Wx) (f : En → Res (List D)) : TE := fun σ H Q => ∃ e, EnvOk K H σ e ∧ FinN K W σ H Q (f e)
def tT (K : PySem.W.Frag) (W : Wx) (f : En → Res Bool) : TT := fun σ H Q => ∃ e, EnvOk K H σ e ∧ FinB K W σ H Q (f e)
def tO (K : PySem.W.Frag) (W : Wx) (f : En → Res (Option Int)) : TO := fun σ H Q => ∃ e, EnvOk K H σ e ∧ FinO K W σ H Q (f e)
section
variable {X : Cx} {W : Wx}
theorem PE.weak {e : Expr} {t t' : TE} (h : PE X e t) (w : ∀ σ H Q, t' σ H Q → t σ H Q) : PE X e t' := ⟨fun pins s σ H Q I q => h.run pins s σ H Q I (w σ H Q q)⟩
theorem PA.weak {e : List Expr} {t t' : TA} (h : PA X e t) (w : ∀ σ H Q, t' σ H Q → t σ H Q) : PA X e t' := ⟨fun pos pins s σ H Q I q => h.run pos pins s σ H Q I (w σ H Q q)⟩
theorem PT.weak {e : Expr} {t t' : TT} (h : PT X e t) (w : ∀ σ H Q, t' σ H Q → t σ H Q) : PT X e t' := ⟨fun pins s σ H Q I q => h.run pins s σ H Q I (w σ H Q q)⟩
theorem PW.weak {e : Expr} {t t' : TT} (h : PW X e t) (w : ∀ σ H Q, t' σ H Q → t σ H Q) : PW X e t' := ⟨fun wh pins s σ H Q I q => h.run wh pins s σ H Q I (w σ H Q q)⟩
theorem PO.weak {e : Option Expr} {t t' : TO} (h : PO X e t) (w : ∀ σ H Q, t' σ H Q → t σ H Q) : PO X e t' := ⟨fun pins s σ H Q I q => h.run pins s σ H Q I (w σ H Q q)⟩
theorem PS.weak {e : Stmt} {t t' : TS} (h : PS X e t) (w : ∀ D σ H, t' D σ H → t D σ H) : PS X e t' := ⟨fun pins s σ H Q I q => h.run pins s σ H Q I (w Q σ H q)⟩
theorem PSs.weak {e : List Stmt} {t t' : TS} (h : PSs X e t) (w : ∀ D σ H, t' D σ H → t D σ H) : PSs X e t' := ⟨fun pins s σ H Q I q => h.run pins s σ H Q I (w Q σ H q)⟩

theorem pd_var (i : Nat) {x : Str} {pos : Pos} (hN : X.N[i]? = some x := by rfl) (hv : Vis X.env.scope x := by first | exact Or.inl rfl | exact Or.inr (Or.inl rfl) | exact Or.inr (Or.inr rfl)) (hd : (x == ("__debug__" : Str)) = false := by decide)
    (hcd : (x == ("__classdict__" : Str)) = false := by decide) : PE X (.Name x pos) (tD X.K W (getE i)) := by
  refine PE.weak (pe_var hN hv hd hcd) fun σ H Q ⟨e, he, hf⟩ => ?_
  cases g : getE i e with
  | ok d =>
    rw [g] at hf
    obtain ⟨v, e1, e2⟩ := he.get g
    exact ⟨v, e1, hf v H (Same.refl H) e2⟩
  | exc c => unfold getE at g; split at g <;> cases g
  | bad => rw [g] at hf; exact hf.elim
def cD (d : D) : En → Res D := fun _ => .ok d
theorem tD_const {v : V} {d : D} (h : ∀ K H, Rp K H d v) : ∀ σ H Q, tD X.K W (cD d) σ H Q → tC v σ H Q := fun σ H Q ⟨e, he, hf⟩ => hf v H (Same.refl H) (h _ _)
theorem pd_int {i j pos} : PE X (.Constant (.int i) j pos) (tD X.K W (cD (.int i))) := PE.weak pe_int (tD_const fun _ _ => rfl)
theorem pd_bl {b j pos} : PE X (.Constant (.bool b) j pos) (tD X.K W (cD (.bl b))) := PE.weak pe_bl (tD_const fun _ _ => rfl)
theorem pd_non {j pos} : PE X (.Constant .none j pos) (tD X.K W (cD .non)) := PE.weak pe_non (tD_const fun _ _ => rfl)
theorem pd_str (l : List Nat) {x j pos} (h : x = S l) : PE X (.Constant (.str x) j pos) (tD X.K W (cD (.str l))) := by
  subst h
  exact PE.weak pe_str (tD_const fun _ _ => rfl)

/-! ### composition -/
theorem fin_exc {K : PySem.W.Frag} {σ : L2.St} {H H1 : Hp} {c : Nat} (h : ∀ H', Same H H' → W c σ H') (s : Same H H1) : ∀ H', Same H1 H' → W c σ H' := fun H' q => h H' (s.trans q)
/-- a two-place operation on data -/
def OpD (K : PySem.W.Frag) (r : R2) (g : D → D → Option D) : Prop := ∀ x y H (Q : VK) d e z, Rp K H d x → Rp K H e y → g d e = some z → (∀ v H', Same H H' → Rp K H' z v → Q v H') → r x y H Q
def bopF (g : D → D → Option D) (fa fb : En → Res D) : En → Res D := fun e => rb (fa e) fun x => rb (fb e) fun y => ofO (g x y)
theorem tD_op {K : PySem.W.Frag} {r : R2} {g : D → D → Option D} {fa fb : En → Res D} (hg : OpD K r g) : ∀ σ H Q, tD K W (bopF g fa fb) σ H Q → tOp r (tD K W fa) (tD K W fb) σ H Q := by
  rintro σ H Q ⟨e, he, hf⟩
  refine ⟨e, he, ?_⟩
  unfold bopF at hf
  cases h1 : fa e with
  | bad => rw [h1] at hf; exact hf
  | exc c => rw [h1] at hf; exact hf
  | ok d =>
    rw [h1, rb_ok] at hf
    intro v H1 s1 r1
    refine ⟨e, he.mono s1, ?_⟩
    cases h2 : fb e with
    | bad => rw [h2] at hf; exact hf.elim
    | exc c => rw [h2] at hf; exact fun H' q => hf H' (s1.trans q)
    | ok d2 =>
      rw [h2, rb_ok] at hf
      intro v2 H2 s2 r2
      cases h3 : g d d2 with
      | none => rw [h3] at hf; exact hf.elim
      | some z =>
        rw [h3] at hf
        exact hg v v2 H2 Q d d2 z (r1.mono s2) r2 h3 fun v3 H3 s3 r3 => hf v3 H3 ((s1.trans s2).trans s3) r3
theorem pd_op {op : Operator} {r : R2} {g : D → D → Option D} {fa fb : En → Res D} {a b : Expr} {pos : Pos} (ho : OpR X (binaryOp op) r) (hg : OpD X.K r g) (ha : PE X a (tD X.K W fa)) (hb : PE X b (tD X.K W fb)) :
    PE X (.BinOp a op b pos) (tD X.K W (bopF g fa fb)) := PE.weak (pe_op ho ha hb) (tD_op hg)
theorem pd_cmp {op : CmpOp} {r : R2} {g : D → D → Option D} {fa fb : En → Res D} {a b : Expr} {pos : Pos} (ho : OpR X (compareOp op) r) (hg : OpD X.K r g) (ha : PE X a (tD X.K W fa)) (hb : PE X b (tD X.K W fb)) (hm : behindInMarks op b = false) :
    PE X (.Compare a [op] [b] pos) (tD X.K W (bopF g fa fb)) := PE.weak (pe_cmpR ho ha hb hm) (tD_op hg)
/-- a one-place operation -/
def UnD (K : PySem.W.Frag) (r : V → Hp → VK → Prop) (g : D → Option D) : Prop := ∀ x H (Q : VK) d z, Rp K H d x → g d = some z → (∀ v H', Same H H' → Rp K H' z v → Q v H') → r x H Q
def uopF (g : D → Option D) (fa : En → Res D) : En → Res D := fun e => rb (fa e) fun x => ofO (g x)
theorem tD_un {K : PySem.W.Frag} {r : V → Hp → VK → Prop} {g : D → Option D} {fa : En → Res D} (hg : UnD K r g) : ∀ σ H Q, tD K W (uopF g fa) σ H Q → tUn r (tD K W fa) σ H Q := by
  rintro σ H Q ⟨e, he, hf⟩
  refine ⟨e, he, ?_⟩
  unfold uopF at hf
  cases h1 : fa e with
  | bad => rw [h1] at hf; exact hf
  | exc c => rw [h1] at hf; exact hf
  | ok d =>
    rw [h1, rb_ok] at hf
    intro v H1 s1 r1
    cases h3 : g d with
    | none => rw [h3] at hf; exact hf.elim
    | some z =>
      rw [h3] at hf
      exact hg v H1 Q d z r1 h3 fun v3 H3 s3 r3 => hf v3 H3 (s1.trans s3) r3
theorem pd_un {op : UnaryOp} {r : V → Hp → VK → Prop} {g : D → Option D} {fa : En → Res D} {a : Expr} {pos : Pos} (ho : UnR X (unaryOp op) r) (hg : UnD X.K r g) (ha : PE X a (tD X.K W fa)) :
    PE X (.UnaryOp op a pos) (tD X.K W (uopF g fa)) := PE.weak (pe_un ho ha) (tD_un hg)

/-! ### arguments -/
def nilF : En → Res (List D) := fun _ => .ok []
def consF (f : En → Res D) (r : En → Res (List D)) : En → Res (List D) := fun e => rb (f e) fun d => rb (r e) fun ds => .ok (d :: ds)
theorem pda_nil : PA X [] (tDs X.K W nilF) := PA.weak pa_nil fun σ H Q ⟨e, he, hf⟩ => hf [] H (Same.refl H) rfl
theorem pda_cons {e : Expr} {es : List Expr} {f : En → Res D} {r : En → Res (List D)} (ha : PE X e (tD X.K W f)) (hr : PA X es (tDs X.K W r)) (hs : starEach (e :: es) X.env = (false, eval e X.env) :: starEach es X.env := by rfl) :
    PA X (e :: es) (tDs X.K W (consF f r)) := by
  refine PA.weak (pa_cons ha hr hs) ?_
  rintro σ H Q ⟨e, he, hf⟩
  refine ⟨e, he, ?_⟩
  unfold consF at hf
  cases h1 : f e with
  | bad => rw [h1] at hf; exact hf
  | exc c => rw [h1] at hf; exact hf
  | ok d =>
    rw [h1, rb_ok] at hf
    intro v H1 s1 r1
    refine ⟨e, he.mono s1, ?_⟩
    cases h2 : r e with
    | bad => rw [h2] at hf; exact hf.elim
    | exc c => rw [h2] at hf; exact fun H' q => hf H' (s1.trans q)
    | ok ds =>
      rw [h2, rb_ok] at hf
      intro vs H2 s2 r2
      exact hf (v :: vs) H2 (s1.trans s2) ⟨v, vs, rfl, r1.mono s2, r2⟩
/-- a tuple that is written -/
def tupF (f : En → Res (List D)) : En → Res D := fun e => rb (f e) fun ds => ofO (if ds.length ≤ sizeLine then some (.tup ds) else none)
theorem pd_tup {es : List Expr} {x1 pos} {f : En → Res (List D)} (h : PA X es (tDs X.K W f)) : PE X (.Tuple es x1 pos) (tD X.K W (tupF f)) := by
  refine PE.weak (pe_tup h) ?_
  rintro σ H Q ⟨e, he, hf⟩
  refine ⟨e, he, ?_⟩
  unfold tupF at hf
  cases h1 : f e with
  | bad => rw [h1] at hf; exact hf
  | exc c => rw [h1] at hf; exact hf
  | ok ds =>
    rw [h1, rb_ok] at hf
    intro vs H1 s1 r1
    by_cases hl : ds.length ≤ sizeLine
    · rw [if_pos hl] at hf
      refine ⟨by rw [← r1.length]; exact hl, fun p hp => ?_⟩
      exact hf (.ref p) _ (s1.trans (same_new hp)) ⟨p, vs, rfl, SqT.of upd_same, r1.mono (same_new hp)⟩
    · rw [if_neg hl] at hf
      exact hf.elim
/-- a list that is written -/
def lstF (f : En → Res (List D)) : En → Res (List D) := fun e => rb (f e) fun ds => ofO (if ds.length ≤ sizeLine then some ds else none)
theorem pn_lst {es : List Expr} {pos} {f : En → Res (List D)} (h : PA X es (tDs X.K W f)) : PE X (.List es pos) (tN X.K W (lstF f)) := by
  refine PE.weak (pe_lst h) ?_
  rintro σ H Q ⟨e, he, hf⟩
  refine ⟨e, he, ?_⟩
  unfold lstF at hf
  cases h1 : f e with
  | bad => rw [h1] at hf; exact hf
  | exc c => rw [h1] at hf; exact hf
  | ok ds =>
    rw [h1, rb_ok] at hf
    intro vs H1 s1 r1
    by_cases hl : ds.length ≤ sizeLine
    · rw [if_pos hl] at hf
      refine ⟨by rw [← r1.length]; exact hl, fun p hp => ?_⟩
      exact hf p vs _ (s1.free hp) (s1.trans (same_new hp)) upd_same (r1.mono (same_hide1 hp))
    · rw [if_neg hl] at hf
      exact hf.elim
/-- a new list as data -/
def mkL (f : En → Res (List D)) : En → Res D := fun e => rb (f e) fun ds => .ok (.lst ds)
theorem pd_new {e : Expr} {f : En → Res (List D)} (h : PE X e (tN X.K W f)) : PE X e (tD X.K W (mkL f)) := by
  refine PE.weak h ?_
  rintro σ H Q ⟨e, he, hf⟩
  refine ⟨e, he, ?_⟩
  unfold mkL at hf
  cases h1 : f e with
  | bad => rw [h1] at hf; exact hf
  | exc c => rw [h1] at hf; exact hf
  | ok ds =>
    rw [h1, rb_ok] at hf
    intro a vs H1 na s1 ea r1
    exact hf (.ref a) H1 s1 ⟨a, vs, rfl, SqL.of ea, r1.mono (hide_same _)⟩

/-! ### calls of built-ins -/
def CallD (K : PySem.W.Frag) (r : List V → Hp → VK → Prop) (g : List D → Option D) : Prop := ∀ xs H (Q : VK) ds z, RpAll K H ds xs → g ds = some z → (∀ v H', Same H H' → Rp K H' z v → Q v H') → r xs H Q
def CallN (K : PySem.W.Frag) (r : List V → Hp → VK → Prop) (g : List D → Option (List D)) : Prop := ∀ xs H (Q : VK) ds z, RpAll K H ds xs → g ds = some z → (∀ a vs H', H a = none → Same H H' → H' a = some (.lst vs) → RpAll K (hide1 a H') z vs → Q (.ref a) H') → r xs H Q
def callF {α : Type} (g : List D → Option α) (f : En → Res (List D)) : En → Res α := fun e => rb (f e) fun ds => ofO (g ds)
theorem tD_call {K : PySem.W.Frag} {r : List V → Hp → VK → Prop} {g : List D → Option D} {f : En → Res (List D)} (hg : CallD K r g) : ∀ σ H Q, tD K W (callF g f) σ H Q → tCB r (tDs K W f) σ H Q := by
  rintro σ H Q ⟨e, he, hf⟩
  refine ⟨e, he, ?_⟩
  unfold callF at hf
  cases h1 : f e with
  | bad => rw [h1] at hf; exact hf
  | exc c => rw [h1] at hf; exact hf
  | ok ds =>
    rw [h1, rb_ok] at hf
    intro vs H1 s1 r1
    cases h3 : g ds with
    | none => rw [h3] at hf; exact hf.elim
    | some z =>
      rw [h3] at hf
      exact hg vs H1 Q ds z r1 h3 fun v3 H3 s3 r3 => hf v3 H3 (s1.trans s3) r3
theorem tN_call {K : PySem.W.Frag} {r : List V → Hp → VK → Prop} {g : List D → Option (List D)} {f : En → Res (List D)} (hg : CallN K r g) : ∀ σ H Q, tN K W (callF g f) σ H Q → tCB r (tDs K W f) σ H Q := by
  rintro σ H Q ⟨e, he, hf⟩
  refine ⟨e, he, ?_⟩
  unfold callF at hf
  cases h1 : f e with
  | bad => rw [h1] at hf; exact hf
  | exc c => rw [h1] at hf; exact hf
  | ok ds =>
    rw [h1, rb_ok] at hf
    intro vs H1 s1 r1
    cases h3 : g ds with
    | none => rw [h3] at hf; exact hf.elim
    | some z =>
      rw [h3] at hf
      exact hg vs H1 Q ds z r1 h3 fun a ws H3 na s3 ea r3 => hf a ws H3 (s1.free na) (s1.trans s3) ea r3

/-! ### defs by plain functions -/
/-- the class of an exception, by its number -/
structure Cls4 where
  at_ : Nat → Addr
def FinR (K : PySem.W.Frag) (C : Cls4) (H : Hp) (Q : VK) (E : XK) : Res D → Prop
  | .ok d => ∀ v H', Same H H' → Rp K H' d v → Q v H'
  | .exc c => ∀ H', Same H H' → E (.ref (C.at_ c)) none H'
  | .bad => False
def FinRL (K : PySem.W.Frag) (C : Cls4) (H : Hp) (Q : VK) (E : XK) : Res (List D) → Prop
  | .ok xs => ∀ a vs H', H a = none → Same H H' → H' a = some (.lst vs) → RpAll K (hide1 a H') xs vs → Q (.ref a) H'
  | .exc c => ∀ H', Same H H' → E (.ref (C.at_ c)) none H'
  | .bad => False
def spD (K : PySem.W.Frag) (C : Cls4) (n : Nat) (g : List D → Res D) : Sp := fun vs H Q E => ∃ ds, ds.length = n ∧ RpAll K H ds vs ∧ FinR K C H Q E (g ds)
def spL (K : PySem.W.Frag) (C : Cls4) (n : Nat) (g : List D → Res (List D)) : Sp := fun vs H Q E => ∃ ds, ds.length = n ∧ RpAll K H ds vs ∧ FinRL K C H Q E (g ds)
theorem spD.len {K : PySem.W.Frag} {C : Cls4} {n : Nat} {g : List D → Res D} : ∀ vs H Q E, spD K C n g vs H Q E → vs.length = n := fun vs H Q E ⟨ds, h1, h2, _⟩ => h2.length.symm.trans h1
theorem spL.len {K : PySem.W.Frag} {C : Cls4} {n : Nat} {g : List D → Res (List D)} : ∀ vs H Q E, spL K C n g vs H Q E → vs.length = n := fun vs H Q E ⟨ds, h1, h2, _⟩ => h2.length.symm.trans h1
/-- a call of a def: n arguments -/
def fnF {α : Type} (n : Nat) (g : List D → Res α) (f : En → Res (List D)) : En → Res α := fun e => rb (f e) fun ds => if ds.length = n then noX (g ds) else .bad
theorem tD_fn {K : PySem.W.Frag} {C : Cls4} {n : Nat} {g : List D → Res D} {f : En → Res (List D)} : ∀ σ H Q, tD K W (fnF n g f) σ H Q → tCall (spD K C n g) [] E0 (tDs K W f) σ H Q := by
  rintro σ H Q ⟨e, he, hf⟩
  refine ⟨e, he, ?_⟩
  unfold fnF at hf
  cases h1 : f e with
  | bad => rw [h1] at hf; exact hf
  | exc c => rw [h1] at hf; exact hf
  | ok ds =>
    rw [h1, rb_ok] at hf
    intro vs H1 s1 r1
    by_cases hn : ds.length = n
    · rw [if_pos hn] at hf
      refine ⟨ds, hn, by simpa using r1, ?_⟩
      cases h3 : g ds with
      | bad => rw [h3] at hf; exact hf.elim
      | exc c => rw [h3] at hf; exact hf.elim
      | ok z =>
        rw [h3] at hf
        exact fun v3 H3 s3 r3 => hf v3 H3 (s1.trans s3) r3
    · rw [if_neg hn] at hf; exact hf.elim
theorem tN_fn {K : PySem.W.Frag} {C : Cls4} {n : Nat} {g : List D → Res (List D)} {f : En → Res (List D)} : ∀ σ H Q, tN K W (fnF n g f) σ H Q → tCall (spL K C n g) [] E0 (tDs K W f) σ H Q := by
  rintro σ H Q ⟨e, he, hf⟩
  refine ⟨e, he, ?_⟩
  unfold fnF at hf
  cases h1 : f e with
  | bad => rw [h1] at hf; exact hf
  | exc c => rw [h1] at hf; exact hf
  | ok ds =>
    rw [h1, rb_ok] at hf
    intro vs H1 s1 r1
    by_cases hn : ds.length = n
    · rw [if_pos hn] at hf
      refine ⟨ds, hn, by simpa using r1, ?_⟩
      cases h3 : g ds with
      | bad => rw [h3] at hf; exact hf.elim
      | exc c => rw [h3] at hf; exact hf.elim
      | ok z =>
        rw [h3] at hf
        exact fun a ws H3 na s3 ea r3 => hf a ws H3 (s1.free na) (s1.trans s3) ea r3
    · rw [if_neg hn] at hf; exact hf.elim
end
end FM

set_option Elab.async false
set_option linter.all false
set_option maxRecDepth 100000
/-! FM2: operators, subscripts, slices, tests on plain data. -/
namespace FM
open PySem PySem.Spec PyProof.Rows L2

/-! ### arithmetic -/
theorem OpD.or {K : PySem.W.Frag} {r r' : R2} {g g' : D → D → Option D} (h : OpD K r g) (h' : OpD K r' g') : OpD K (fun x y H Q => r x y H Q ∨ r' x y H Q) (fun d e => (g d e).or (g' d e)) := by
  intro x y H Q d e z r1 r2 hz q
  dsimp only at hz
  cases hg : g d e with
  | some u =>
    rw [hg] at hz
    have : u = z := by simpa using hz
    subst this
    exact .inl (h x y H Q d e u r1 r2 hg q)
  | none =>
    rw [hg] at hz
    exact .inr (h' x y H Q d e z r1 r2 (by simpa using hz) q)
def addI : D → D → Option D
  | .int i, .int j => some (.int (i + j))
  | _, _ => none
def addS : D → D → Option D
  | .str a, .str b => if a.length + b.length ≤ sizeLine then some (.str (a ++ b)) else none
  | _, _ => none
def addT : D → D → Option D
  | .tup a, .tup b => if a.length + b.length ≤ sizeLine then some (.tup (a ++ b)) else none
  | _, _ => none
def subI : D → D → Option D
  | .int i, .int j => some (.int (i - j))
  | _, _ => none
def mulI : D → D → Option D
  | .int i, .int j => if (i.natAbs < 2 ^ 64 ∨ j.natAbs < 2 ^ 64) then some (.int (i * j)) else none
  | _, _ => none
def modI : D → D → Option D
  | .int i, .int j => if 0 < j then some (.int (i % j)) else none
  | _, _ => none
def addL : D → D → Option (List D)
  | .lst a, .lst b => if a.length + b.length ≤ sizeLine then some (a ++ b) else none
  | _, _ => none
section
variable {K : PySem.W.Frag} {X : Cx} {W : Wx}
theorem rI0_D {g : Int → Int → D} {v : Int → Int → V} {f : D → D → Option D} (hv : ∀ i j K H, Rp K H (g i j) (v i j)) (hf : ∀ d e z, f d e = some z → ∃ i j, d = .int i ∧ e = .int j ∧ z = g i j) : OpD K (rI0 v) f := by
  intro x y H Q d e z r1 r2 hz q
  obtain ⟨i, j, rfl, rfl, rfl⟩ := hf d e z hz
  cases r1; cases r2
  exact ⟨i, j, rfl, rfl, q _ H (Same.refl H) (hv i j _ _)⟩
theorem addI_D : OpD K (rI0 fun i j => .int (i + j)) addI := rI0_D (g := fun i j => .int (i + j)) (fun _ _ _ _ => rfl) fun d e z h => by
  unfold addI at h; split at h <;> cases h; exact ⟨_, _, rfl, rfl, rfl⟩
theorem subI_D : OpD K (rI0 fun i j => .int (i - j)) subI := rI0_D (g := fun i j => .int (i - j)) (fun _ _ _ _ => rfl) fun d e z h => by
  unfold subI at h; split at h <;> cases h; exact ⟨_, _, rfl, rfl, rfl⟩
theorem addS_D : OpD K (fun x y H Q => ∃ i j : Str, x = .str i ∧ y = .str j ∧ i.length + j.length ≤ sizeLine ∧ Q (.str (i ++ j)) H) addS := by
  intro x y H Q d e z r1 r2 hz q
  unfold addS at hz
  split at hz
  · split at hz
    · rename_i a b hl
      cases hz
      cases r1; cases r2
      refine ⟨S a, S b, rfl, rfl, by simpa [Str.length] using hl, q _ H (Same.refl H) ?_⟩
      show V.str (S a ++ S b) = V.str (S (a ++ b))
      have : S a ++ S b = S (a ++ b) := by
        show Str.append (S a) (S b) = _
        simp [Str.append, S]
      rw [this]
    · cases hz
  · cases hz
theorem addT_D : OpD K (rCatA K) addT := by
  intro x y H Q d e z r1 r2 hz q
  unfold addT at hz
  split at hz
  · split at hz
    · rename_i a b hl
      cases hz
      obtain ⟨p, xs, rfl, h1, h2⟩ := r1
      obtain ⟨p2, ys, rfl, h3, h4⟩ := r2
      have l1 := h2.length
      have l2 := h4.length
      refine ⟨p, p2, xs, ys, rfl, rfl, h1, h3, by omega, fun e => ?_, fun _ e => ?_, fun _ _ p' hp => ?_⟩
      · subst e
        have : a = [] := List.eq_nil_of_length_eq_zero (by simpa using l1)
        subst this
        exact q _ H (Same.refl H) ⟨p2, ys, rfl, h3, by simpa using h4⟩
      · subst e
        have : b = [] := List.eq_nil_of_length_eq_zero (by simpa using l2)
        subst this
        exact q _ H (Same.refl H) ⟨p, xs, rfl, h1, by simpa using h2⟩
      · exact q _ _ (same_new hp) ⟨p', _, rfl, SqT.of upd_same, (h2.append h4).mono (same_new hp)⟩
    · cases hz
  · cases hz
theorem mulI_D : OpD K (rI CMul fun i j => .int (i * j)) mulI := by
  intro x y H Q d e z r1 r2 hz q
  unfold mulI at hz
  split at hz
  · split at hz
    · rename_i i j hc
      cases hz
      cases r1; cases r2
      refine ⟨i, j, rfl, rfl, ?_, q _ H (Same.refl H) rfl⟩
      rcases hc with h | h
      · exact .inl ⟨by omega, by omega⟩
      · exact .inr ⟨by omega, by omega⟩
    · cases hz
  · cases hz
theorem modI_D : OpD K (rI (fun _ j => 0 < j) fun i j => .int (i % j)) modI := by
  intro x y H Q d e z r1 r2 hz q
  unfold modI at hz
  split at hz
  · split at hz
    · rename_i i j hc
      cases hz
      cases r1; cases r2
      exact ⟨i, j, rfl, rfl, hc, q _ H (Same.refl H) rfl⟩
    · cases hz
  · cases hz
/-- a + b: numbers, texts, tuples -/
def addO (d e : D) : Option D := (addI d e).or ((addS d e).or (addT d e))
variable {a b c : Expr} {fa fb fc : En → Res D} {pos : Pos}
theorem pd_add (ha : PE X a (tD X.K W fa)) (hb : PE X b (tD X.K W fb)) : PE X (.BinOp a .Add b pos) (tD X.K W (bopF addO fa fb)) :=
  pd_op (op_add.or (op_add_str.or op_catA)) (addI_D.or (addS_D.or addT_D)) ha hb
theorem pd_sub (ha : PE X a (tD X.K W fa)) (hb : PE X b (tD X.K W fb)) : PE X (.BinOp a .Sub b pos) (tD X.K W (bopF subI fa fb)) := pd_op op_sub subI_D ha hb
theorem pd_mul (ha : PE X a (tD X.K W fa)) (hb : PE X b (tD X.K W fb)) : PE X (.BinOp a .Mult b pos) (tD X.K W (bopF mulI fa fb)) := pd_op op_mul mulI_D ha hb
theorem pd_mod (ha : PE X a (tD X.K W fa)) (hb : PE X b (tD X.K W fb)) : PE X (.BinOp a .Mod b pos) (tD X.K W (bopF modI fa fb)) := pd_op op_mod modI_D ha hb
def negI : D → Option D
  | .int i => some (.int (-i))
  | _ => none
theorem pd_neg (ha : PE X a (tD X.K W fa)) : PE X (.UnaryOp .USub a pos) (tD X.K W (uopF negI fa)) := pd_un un_neg (fun x H Q d z r hz q => by
  unfold negI at hz
  split at hz <;> cases hz
  cases r
  exact ⟨_, rfl, q _ H (Same.refl H) rfl⟩) ha

/-! ### two-place operations that give a new list -/
def OpN (K : PySem.W.Frag) (r : R2) (g : D → D → Option (List D)) : Prop := ∀ x y H (Q : VK) d e z, Rp K H d x → Rp K H e y → g d e = some z → (∀ a vs H', H a = none → Same H H' → H' a = some (.lst vs) → RpAll K (hide1 a H') z vs → Q (.ref a) H') → r x y H Q
def bopN (g : D → D → Option (List D)) (fa fb : En → Res D) : En → Res (List D) := fun e => rb (fa e) fun x => rb (fb e) fun y => ofO (g x y)
theorem tN_op {r : R2} {g : D → D → Option (List D)} {fa fb : En → Res D} (hg : OpN K r g) : ∀ σ H Q, tN K W (bopN g fa fb) σ H Q → tOp r (tD K W fa) (tD K W fb) σ H Q := by
  rintro σ H Q ⟨e, he, hf⟩
  refine ⟨e, he, ?_⟩
  unfold bopN at hf
  cases h1 : fa e with
  | bad => rw [h1] at hf; exact hf
  | exc c => rw [h1] at hf; exact hf
  | ok d =>
    rw [h1, rb_ok] at hf
    intro v H1 s1 r1
    refine ⟨e, he.mono s1, ?_⟩
    cases h2 : fb e with
    | bad => rw [h2] at hf; exact hf.elim
    | exc c => rw [h2] at hf; exact fun H' q => hf H' (s1.trans q)
    | ok d2 =>
      rw [h2, rb_ok] at hf
      intro v2 H2 s2 r2
      cases h3 : g d d2 with
      | none => rw [h3] at hf; exact hf.elim
      | some z =>
        rw [h3] at hf
        exact hg v v2 H2 Q d d2 z (r1.mono s2) r2 h3 fun a vs H3 na s3 ea r3 => hf a vs H3 ((s1.trans s2).free na) ((s1.trans s2).trans s3) ea r3
/-- list + list, whatever they stand as -/
def rCatL (K : PySem.W.Frag) : R2 := fun x y H Q => ∃ l b xs zs, x = .ref l ∧ y = .ref b ∧ SqL K H l xs ∧ SqL K H b zs ∧ xs.length + zs.length ≤ sizeLine ∧ ∀ p, H p = none → Q (.ref p) (upd H p (.lst (xs ++ zs)))
theorem op_catL : OpR X (binaryOp .Add) (rCatL X.K) := by
  intro pins s σ H x y v u Q I rx ry h
  obtain ⟨l, b, xs, zs, rfl, rfl, hH, hB, hz, q⟩ := h
  cases rx
  cases ry
  obtain ⟨its, r, ⟨⟨cls, dd, data, sl⟩, n, ho, hc, hdn, hd⟩, _⟩ := I.list hH
  obtain ⟨its2, r2, ⟨⟨cls2, dd2, data2, sl2⟩, n2, ho2, hc2, hdn2, hd2⟩, _⟩ := I.list hB
  simp only at hc hd hc2 hd2
  subst hc hd hc2 hd2
  have l1 := r.length
  have l2 := r2.length
  have ea : its.toArray ++ its2.toArray = (its ++ its2).toArray := by simp
  refine concat_meets ⟨_, ho, rfl⟩ ⟨_, ho2, rfl⟩ noFill_list_add seq_list_add PySem.F.slot_list_add PySem.F.entry_list_add (PySem.F.args_list_add_2 _ _) (list_addW l b its.toArray its2.toArray n n2 dd dd2 sl sl2 (by simp; omega)) ⟨ho, ho2, ?_⟩
  rw [ea]
  exact ⟨.ref _, _, I.lnew (t' := s.toks) (r.append r2) (by rw [List.length_append]; omega), rfl, q _ I.fresh⟩
theorem pn_add (ha : PE X a (tD X.K W fa)) (hb : PE X b (tD X.K W fb)) : PE X (.BinOp a .Add b pos) (tN X.K W (bopN addL fa fb)) :=
  PE.weak (pe_op op_catL ha hb) (tN_op (fun x y H Q d e z r1 r2 hz q => by
    unfold addL at hz
    split at hz
    · split at hz
      · rename_i xs ys hl
        cases hz
        obtain ⟨p, vs, rfl, h1, h2⟩ := r1
        obtain ⟨p2, ws, rfl, h3, h4⟩ := r2
        have l1 := h2.length
        have l2 := h4.length
        exact ⟨p, p2, vs, ws, rfl, rfl, h1, h3, by omega, fun p' hp => q p' _ _ hp (same_new hp) upd_same ((h2.append h4).mono (same_hide1 hp))⟩
      · cases hz
    · cases hz))

/-! ### comparisons -/
def scalD : D → D → Bool
  | .non, .non => true | .non, .int _ => true | .int _, .non => true | .non, .bl _ => true | .bl _, .non => true | .non, .str _ => true | .str _, .non => true
  | .int _, .int _ => true | .bl _, .bl _ => true | .str _, .str _ => true
  | .int _, .str _ => true | .str _, .int _ => true | .bl _, .str _ => true | .str _, .bl _ => true
  | _, _ => false
def eqB (d e : D) : Option Bool := if scalD d e then some (eqv d e) else if d.okN 64 && e.okN 64 then some (eqv d e) else none
def eqO (d e : D) : Option D := (eqB d e).map .bl
def neO (d e : D) : Option D := (eqB d e).map fun b => .bl (!b)
theorem scal_eqv {H : Hp} {d e : D} {x y : V} (h : scalD d e = true) (r1 : Rp K H d x) (r2 : Rp K H e y) : scal x y = true ∧ decide (x = y) = eqv d e := by
  cases d <;> cases e <;> simp only [scalD, Bool.false_eq_true] at h <;> cases r1 <;> cases r2 <;> refine ⟨rfl, ?_⟩ <;> simp [eqv]
  · rename_i i j
    by_cases h : i = j <;> simp [h]
  · rename_i i j
    by_cases h : i = j <;> simp [h]
  · rename_i i j
    by_cases h : i = j <;> simp [h]
theorem eqO_D : OpD K (fun x y H Q => rEq x y H Q ∨ rEqD K x y H Q) eqO := by
  intro x y H Q d e z r1 r2 hz q
  unfold eqO eqB at hz
  by_cases hs : scalD d e = true
  · rw [if_pos hs] at hz
    cases hz
    obtain ⟨h1, h2⟩ := scal_eqv hs r1 r2
    exact .inl ⟨h1, by rw [h2]; exact q _ H (Same.refl H) rfl⟩
  · rw [if_neg hs] at hz
    split at hz
    · rename_i hk
      simp only [Bool.and_eq_true] at hk
      cases hz
      exact .inr ⟨_, _, r1.dp, r2.dp, ok_shaped hk.1, ok_shaped hk.2, by rw [eqv_py]; exact q _ H (Same.refl H) rfl⟩
    · cases hz
theorem neO_D : OpD K (fun x y H Q => rNe x y H Q ∨ rNeD K x y H Q) neO := by
  intro x y H Q d e z r1 r2 hz q
  unfold neO eqB at hz
  by_cases hs : scalD d e = true
  · rw [if_pos hs] at hz
    cases hz
    obtain ⟨h1, h2⟩ := scal_eqv hs r1 r2
    exact .inl ⟨h1, by rw [h2]; exact q _ H (Same.refl H) rfl⟩
  · rw [if_neg hs] at hz
    split at hz
    · rename_i hk
      simp only [Bool.and_eq_true] at hk
      cases hz
      exact .inr ⟨_, _, r1.dp, r2.dp, ok_shaped hk.1, ok_shaped hk.2, by rw [eqv_py]; exact q _ H (Same.refl H) rfl⟩
    · cases hz
def ltO : D → D → Option D
  | .int i, .int j => some (.bl (decide (i < j)))
  | .str a, .str b => some (.bl (decide (a < b)))
  | _, _ => none
def leO : D → D → Option D
  | .int i, .int j => some (.bl (decide (i ≤ j)))
  | .str a, .str b => some (.bl (!decide (b < a)))
  | _, _ => none
def gtO : D → D → Option D
  | .int i, .int j => some (.bl (decide (j < i)))
  | .str a, .str b => some (.bl (decide (b < a)))
  | _, _ => none
def geO : D → D → Option D
  | .int i, .int j => some (.bl (decide (j ≤ i)))
  | .str a, .str b => some (.bl (!decide (a < b)))
  | _, _ => none
theorem ltO_D : OpD K (fun x y H Q => rI0 (fun i j => .bl (decide (i < j))) x y H Q ∨ ∃ i j : Str, x = .str i ∧ y = .str j ∧ Q (.bl (decide (i.cps.toList < j.cps.toList))) H) ltO := by
  intro x y H Q d e z r1 r2 hz q
  unfold ltO at hz
  split at hz <;> cases hz <;> cases r1 <;> cases r2
  · exact .inl ⟨_, _, rfl, rfl, q _ H (Same.refl H) rfl⟩
  · exact .inr ⟨_, _, rfl, rfl, q _ H (Same.refl H) rfl⟩
theorem leO_D : OpD K (fun x y H Q => rI0 (fun i j => .bl (decide (i ≤ j))) x y H Q ∨ ∃ i j : Str, x = .str i ∧ y = .str j ∧ Q (.bl (!decide (j.cps.toList < i.cps.toList))) H) leO := by
  intro x y H Q d e z r1 r2 hz q
  unfold leO at hz
  split at hz <;> cases hz <;> cases r1 <;> cases r2
  · exact .inl ⟨_, _, rfl, rfl, q _ H (Same.refl H) rfl⟩
  · exact .inr ⟨_, _, rfl, rfl, q _ H (Same.refl H) rfl⟩
theorem gtO_D : OpD K (fun x y H Q => rI0 (fun i j => .bl (decide (j < i))) x y H Q ∨ ∃ i j : Str, x = .str i ∧ y = .str j ∧ Q (.bl (decide (j.cps.toList < i.cps.toList))) H) gtO := by
  intro x y H Q d e z r1 r2 hz q
  unfold gtO at hz
  split at hz <;> cases hz <;> cases r1 <;> cases r2
  · exact .inl ⟨_, _, rfl, rfl, q _ H (Same.refl H) rfl⟩
  · exact .inr ⟨_, _, rfl, rfl, q _ H (Same.refl H) rfl⟩
theorem geO_D : OpD K (fun x y H Q => rI0 (fun i j => .bl (decide (j ≤ i))) x y H Q ∨ ∃ i j : Str, x = .str i ∧ y = .str j ∧ Q (.bl (!decide (i.cps.toList < j.cps.toList))) H) geO := by
  intro x y H Q d e z r1 r2 hz q
  unfold geO at hz
  split at hz <;> cases hz <;> cases r1 <;> cases r2
  · exact .inl ⟨_, _, rfl, rfl, q _ H (Same.refl H) rfl⟩
  · exact .inr ⟨_, _, rfl, rfl, q _ H (Same.refl H) rfl⟩
/-- x is None, x is True -/
def isB : D → D → Option Bool
  | .bl a, .bl b => some (decide (a = b))
  | .non, .non => some true
  | _, .non => some false
  | _, _ => none
def isO (d e : D) : Option D := (isB d e).map .bl
def isnO (d e : D) : Option D := (isB d e).map fun b => .bl (!b)
theorem Rp_non {H : Hp} {d : D} {v : V} (r : Rp K H d v) (h : ∀ x, d = .non → x = false) (x : Bool) : decide (v = .non) = false ∨ d = .non := by
  cases d with
  | non => exact .inr rfl
  | bl b => cases r; exact .inl (by simp)
  | int b => cases r; exact .inl (by simp)
  | str b => cases r; exact .inl (by simp)
  | tup b => obtain ⟨_, _, rfl, _⟩ := r; exact .inl (by simp)
  | lst b => obtain ⟨_, _, rfl, _⟩ := r; exact .inl (by simp)
theorem isB_non {H : Hp} {d : D} {v : V} (r : Rp K H d v) : isB d .non = some (decide (v = .non)) := by
  cases d with
  | non => cases r; rfl
  | bl b => cases r; simp [isB]
  | int b => cases r; simp [isB]
  | str b => cases r; simp [isB]
  | tup b => obtain ⟨_, _, rfl, _⟩ := r; simp [isB]
  | lst b => obtain ⟨_, _, rfl, _⟩ := r; simp [isB]
theorem isB_shape {d e : D} {b : Bool} (h : isB d e = some b) : e = .non ∨ ∃ x y, d = .bl x ∧ e = .bl y ∧ b = decide (x = y) := by
  unfold isB at h
  split at h <;> cases h
  · exact .inr ⟨_, _, rfl, rfl, rfl⟩
  · exact .inl rfl
  · exact .inl rfl
theorem isO_D : OpD K (fun x y H Q => (y = .non ∧ Q (.bl (decide (x = .non))) H) ∨ rIsB x y H Q) isO := by
  intro x y H Q d e z r1 r2 hz q
  unfold isO at hz
  cases hb : isB d e with
  | none => rw [hb] at hz; cases hz
  | some b =>
    rw [hb] at hz
    cases hz
    rcases isB_shape hb with rfl | ⟨x', y', rfl, rfl, rfl⟩
    · rw [isB_non r1] at hb
      cases hb
      cases r2
      exact .inl ⟨rfl, q _ H (Same.refl H) rfl⟩
    · cases r1; cases r2
      exact .inr ⟨_, _, rfl, rfl, q _ H (Same.refl H) rfl⟩
theorem isnO_D : OpD K (fun x y H Q => (y = .non ∧ Q (.bl (!decide (x = .non))) H) ∨ rNotB x y H Q) isnO := by
  intro x y H Q d e z r1 r2 hz q
  unfold isnO at hz
  cases hb : isB d e with
  | none => rw [hb] at hz; cases hz
  | some b =>
    rw [hb] at hz
    cases hz
    rcases isB_shape hb with rfl | ⟨x', y', rfl, rfl, rfl⟩
    · rw [isB_non r1] at hb
      cases hb
      cases r2
      exact .inl ⟨rfl, q _ H (Same.refl H) rfl⟩
    · cases r1; cases r2
      exact .inr ⟨_, _, rfl, rfl, q _ H (Same.refl H) rfl⟩
/-- x in y: a sign in a text; data in a tuple or a list -/
def inB : D → D → Option Bool
  | .str [c], .str b => some (decide (c ∈ b))
  | d, .tup ds => if d.okN 64 && okAll 63 ds then some (ds.any fun z => eqv z d) else none
  | d, .lst ds => if d.okN 64 && okAll 63 ds then some (ds.any fun z => eqv z d) else none
  | _, _ => none
def inO (d e : D) : Option D := (inB d e).map .bl
def ninO (d e : D) : Option D := (inB d e).map fun b => .bl (!b)
def rInT (K : PySem.W.Frag) : R2 := fun x y H Q => ∃ d ds, Dp K H x d ∧ Dp K H y (.tuple ds) ∧ SeqAt.shaped d = true ∧ SeqAt.shaped (.tuple ds) = true ∧ Q (.bl (ds.any fun z => PyData.eqv z d)) H
def rNotInT (K : PySem.W.Frag) : R2 := fun x y H Q => ∃ d ds, Dp K H x d ∧ Dp K H y (.tuple ds) ∧ SeqAt.shaped d = true ∧ SeqAt.shaped (.tuple ds) = true ∧ Q (.bl (!ds.any fun z => PyData.eqv z d)) H
theorem op_inT (hu : X.A.units + 65 < cLine) : OpR X (compareOp .In) (rInT X.K) := by
  intro pins s σ H x y v u Q I rx ry h
  obtain ⟨d, ds, hd, he, sd, se, q⟩ := h
  obtain ⟨as, r1⟩ := Dp.reads I d x v hd rx
  obtain ⟨bs, r2⟩ := Dp.reads I (.tuple ds) y u he ry
  exact SeqAt.in_tuple_reads r2 r1 (SeqAt.canLay_of_shaped se) (SeqAt.canLay_of_shaped sd) (room_in_shaped sd hu) ⟨.bl _, H, I, rfl, q⟩
theorem op_notInT (hu : X.A.units + 65 < cLine) : OpR X (compareOp .NotIn) (rNotInT X.K) := by
  intro pins s σ H x y v u Q I rx ry h
  obtain ⟨d, ds, hd, he, sd, se, q⟩ := h
  obtain ⟨as, r1⟩ := Dp.reads I d x v hd rx
  obtain ⟨bs, r2⟩ := Dp.reads I (.tuple ds) y u he ry
  exact SeqAt.notIn_tuple_reads r2 r1 (SeqAt.canLay_of_shaped se) (SeqAt.canLay_of_shaped sd) (room_in_shaped sd hu) ⟨.bl _, H, I, rfl, q⟩
theorem any_eqv_py (ds : List D) (d : D) : ((toPyAll ds).any fun z => PyData.eqv z (toPy d)) = ds.any fun z => eqv z d := by
  induction ds with
  | nil => simp [toPyAll]
  | cons e r ih => simp only [toPyAll, List.any_cons, ih, eqv_py]
theorem inB_shape {d e : D} {b : Bool} (h : inB d e = some b) : (∃ c l, d = .str [c] ∧ e = .str l ∧ b = decide (c ∈ l)) ∨ (∃ ds, e = .tup ds ∧ d.okN 64 = true ∧ okAll 63 ds = true ∧ b = ds.any fun z => eqv z d) ∨
    (∃ ds, e = .lst ds ∧ d.okN 64 = true ∧ okAll 63 ds = true ∧ b = ds.any fun z => eqv z d) := by
  unfold inB at h
  split at h
  · cases h; exact .inl ⟨_, _, rfl, rfl, rfl⟩
  · split at h
    · rename_i hk
      cases h
      simp only [Bool.and_eq_true] at hk
      exact .inr (.inl ⟨_, rfl, hk.1, hk.2, rfl⟩)
    · cases h
  · split at h
    · rename_i hk
      cases h
      simp only [Bool.and_eq_true] at hk
      exact .inr (.inr ⟨_, rfl, hk.1, hk.2, rfl⟩)
    · cases h
  · cases h
theorem inO_D : OpD K (fun x y H Q => (∃ (c : Nat) (z : Str), x = .str ⟨#[c]⟩ ∧ y = .str z ∧ Q (.bl (decide (c ∈ z.cps.toList))) H) ∨ (rInT K x y H Q ∨ rInD K x y H Q)) inO := by
  intro x y H Q d e z r1 r2 hz q
  unfold inO at hz
  cases hb : inB d e with
  | none => rw [hb] at hz; cases hz
  | some b =>
    rw [hb] at hz
    cases hz
    rcases inB_shape hb with ⟨c, l, rfl, rfl, rfl⟩ | ⟨ds, rfl, h1, h2, rfl⟩ | ⟨ds, rfl, h1, h2, rfl⟩
    · cases r1; cases r2
      exact .inl ⟨c, S l, rfl, rfl, q _ H (Same.refl H) rfl⟩
    · refine .inr (.inl ⟨_, _, r1.dp, r2.dp, ok_shaped h1, ok_shaped (d := .tup ds) (by simpa [D.okN] using h2), ?_⟩)
      rw [any_eqv_py]
      exact q _ H (Same.refl H) rfl
    · refine .inr (.inr ⟨_, _, r1.dp, r2.dp, ok_shaped h1, ok_shaped (d := .lst ds) (by simpa [D.okN] using h2), ?_⟩)
      rw [any_eqv_py]
      exact q _ H (Same.refl H) rfl
theorem ninO_D : OpD K (fun x y H Q => (∃ (c : Nat) (z : Str), x = .str ⟨#[c]⟩ ∧ y = .str z ∧ Q (.bl (!decide (c ∈ z.cps.toList))) H) ∨ (rNotInT K x y H Q ∨ rNotInD K x y H Q)) ninO := by
  intro x y H Q d e z r1 r2 hz q
  unfold ninO at hz
  cases hb : inB d e with
  | none => rw [hb] at hz; cases hz
  | some b =>
    rw [hb] at hz
    cases hz
    rcases inB_shape hb with ⟨c, l, rfl, rfl, rfl⟩ | ⟨ds, rfl, h1, h2, rfl⟩ | ⟨ds, rfl, h1, h2, rfl⟩
    · cases r1; cases r2
      exact .inl ⟨c, S l, rfl, rfl, q _ H (Same.refl H) rfl⟩
    · refine .inr (.inl ⟨_, _, r1.dp, r2.dp, ok_shaped h1, ok_shaped (d := .tup ds) (by simpa [D.okN] using h2), ?_⟩)
      rw [any_eqv_py]
      exact q _ H (Same.refl H) rfl
    · refine .inr (.inr ⟨_, _, r1.dp, r2.dp, ok_shaped h1, ok_shaped (d := .lst ds) (by simpa [D.okN] using h2), ?_⟩)
      rw [any_eqv_py]
      exact q _ H (Same.refl H) rfl
/-- a comparison: the operator's rule and its function -/
structure CmpR (X : Cx) (op : CmpOp) (g : D → D → Option D) : Prop where
  ex : ∃ r, OpR X (compareOp op) r ∧ OpD X.K r g
theorem cm_eq {k : Nat} (hr : Room k X.A) : CmpR X .Eq eqO := ⟨_, op_eq.or (op_eqD hr.units), eqO_D⟩
theorem cm_ne {k : Nat} (hr : Room k X.A) : CmpR X .NotEq neO := ⟨_, op_ne.or (op_neD hr.units), neO_D⟩
theorem cm_lt : CmpR X .Lt ltO := ⟨_, op_lt.or op_lt_str, ltO_D⟩
theorem cm_le : CmpR X .LtE leO := ⟨_, op_le.or op_le_str, leO_D⟩
theorem cm_gt : CmpR X .Gt gtO := ⟨_, op_gt.or op_gt_str, gtO_D⟩
theorem cm_ge : CmpR X .GtE geO := ⟨_, op_ge.or op_ge_str, geO_D⟩
theorem cm_is : CmpR X .Is isO := ⟨_, op_isN.or op_isBl, isO_D⟩
theorem cm_isn : CmpR X .IsNot isnO := ⟨_, op_notN.or op_notBl, isnO_D⟩
theorem units65 {k : Nat} (hr : Room k X.A) : X.A.units + 65 < cLine := by have := hr.un; omega
theorem cm_in {k : Nat} (hr : Room k X.A) : CmpR X .In inO := ⟨_, op_in_sign.or ((op_inT (units65 hr)).or (op_inD (units65 hr))), inO_D⟩
theorem cm_nin {k : Nat} (hr : Room k X.A) : CmpR X .NotIn ninO := ⟨_, op_notIn_sign.or ((op_notInT (units65 hr)).or (op_notInD (units65 hr))), ninO_D⟩
theorem pd_cm {op : CmpOp} {g : D → D → Option D} (h : CmpR X op g) (ha : PE X a (tD X.K W fa)) (hb : PE X b (tD X.K W fb)) (hm : behindInMarks op b = false := by first | exact nomark _ | rfl) : PE X (.Compare a [op] [b] pos) (tD X.K W (bopF g fa fb)) := by
  obtain ⟨r, h1, h2⟩ := h.ex
  exact pd_cmp h1 h2 ha hb hm

/-! ### tests -/
/-- a bool that comes as data -/
def isBl : D → Res Bool
  | .bl b => .ok b
  | _ => .bad
def tstF (f : En → Res D) : En → Res Bool := fun e => rb (f e) isBl
theorem tT_tst {f : En → Res D} : ∀ σ H Q, tT K W (tstF f) σ H Q → tTest (tD K W f) σ H Q := by
  rintro σ H Q ⟨e, he, hf⟩
  refine ⟨e, he, ?_⟩
  unfold tstF at hf
  cases h1 : f e with
  | bad => rw [h1] at hf; exact hf
  | exc c => rw [h1] at hf; exact hf
  | ok d =>
    rw [h1, rb_ok] at hf
    intro v H1 s1 r1
    cases d with
    | bl b => cases r1; exact ⟨b, rfl, hf H1 s1⟩
    | _ => exact (hf : False).elim
theorem pdt_cm {op : CmpOp} {g : D → D → Option D} (h : CmpR X op g) (ha : PE X a (tD X.K W fa)) (hb : PE X b (tD X.K W fb)) (hm : behindInMarks op b = false := by first | exact nomark _ | rfl) : PT X (.Compare a [op] [b] pos) (tT X.K W (tstF (bopF g fa fb))) := by
  obtain ⟨r, h1, h2⟩ := h.ex
  refine PT.weak (pt_cmpR h1 ha hb hm) fun σ H Q q => ?_
  obtain ⟨e, he, hf⟩ := tT_tst σ H Q q
  exact tD_op h2 σ H _ ⟨e, he, hf⟩
/-- a op b op' c -/
def chF (g g' : D → D → Option D) (fa fb fc : En → Res D) : En → Res D := fun e => rb (fa e) fun x => rb (fb e) fun y => rb (ofO (g x y)) fun z => rb (isBl z) fun k => if k then rb (fc e) fun w => ofO (g' y w) else .ok (.bl false)
theorem tD_ch {r r' : R2} {g g' : D → D → Option D} (h1 : OpD K r g) (h2 : OpD K r' g') : ∀ σ H Q, tD K W (chF g g' fa fb fc) σ H Q → tChain r r' (tD K W fa) (tD K W fb) (tD K W fc) σ H Q := by
  rintro σ H Q ⟨e, he, hf⟩
  refine ⟨e, he, ?_⟩
  unfold chF at hf
  cases e1 : fa e with
  | bad => rw [e1] at hf; exact hf
  | exc c => rw [e1] at hf; exact hf
  | ok d =>
    rw [e1, rb_ok] at hf
    intro v H1 s1 r1
    refine ⟨e, he.mono s1, ?_⟩
    cases e2 : fb e with
    | bad => rw [e2] at hf; exact hf.elim
    | exc c => rw [e2] at hf; exact fun H' q => hf H' (s1.trans q)
    | ok d2 =>
      rw [e2, rb_ok] at hf
      intro v2 H2 s2 r2
      cases e3 : g d d2 with
      | none => rw [e3] at hf; exact hf.elim
      | some z =>
        rw [e3, ofO_some, rb_ok] at hf
        cases z with
        | bl k =>
          refine h1 v v2 H2 _ d d2 _ (r1.mono s2) r2 e3 fun v3 H3 s3 r3 => ?_
          cases r3
          refine ⟨k, rfl, ?_⟩
          simp only [isBl, rb_ok] at hf
          cases k with
          | false => simp only [Bool.false_eq_true, if_false] at hf ⊢; exact hf _ H3 ((s1.trans s2).trans s3) rfl
          | true =>
            simp only [if_true] at hf ⊢
            refine ⟨e, ((he.mono s1).mono s2).mono s3, ?_⟩
            cases e4 : fc e with
            | bad => rw [e4] at hf; exact hf.elim
            | exc c => rw [e4] at hf; exact fun H' q => hf H' (((s1.trans s2).trans s3).trans q)
            | ok d4 =>
              rw [e4, rb_ok] at hf
              intro v4 H4 s4 r4
              cases e5 : g' d2 d4 with
              | none => rw [e5] at hf; exact hf.elim
              | some z5 =>
                rw [e5] at hf
                exact h2 v2 v4 H4 Q d2 d4 z5 ((r2.mono s3).mono s4) r4 e5 fun v5 H5 s5 r5 => hf v5 H5 ((((s1.trans s2).trans s3).trans s4).trans s5) r5
        | _ => exact (hf : False).elim
theorem pd_ch {op op' : CmpOp} {g g' : D → D → Option D} (h : CmpR X op g) (h' : CmpR X op' g') (ha : PE X a (tD X.K W fa)) (hb : PE X b (tD X.K W fb)) (hc : PE X c (tD X.K W fc)) (hm : lastMarks [op, op'] [b, c] = false := by with_unfolding_all rfl) :
    PE X (.Compare a [op, op'] [b, c] pos) (tD X.K W (chF g g' fa fb fc)) := by
  obtain ⟨r, h1, h2⟩ := h.ex
  obtain ⟨r', h1', h2'⟩ := h'.ex
  exact PE.weak (pe_chain h1 h1' ha hb hc hm) (tD_ch h2 h2')
theorem pdt_ch {op op' : CmpOp} {g g' : D → D → Option D} (h : CmpR X op g) (h' : CmpR X op' g') (ha : PE X a (tD X.K W fa)) (hb : PE X b (tD X.K W fb)) (hc : PE X c (tD X.K W fc)) (hm : lastMarks [op, op'] [b, c] = false := by with_unfolding_all rfl) :
    PT X (.Compare a [op, op'] [b, c] pos) (tT X.K W (tstF (chF g g' fa fb fc))) := by
  obtain ⟨r, h1, h2⟩ := h.ex
  obtain ⟨r', h1', h2'⟩ := h'.ex
  refine PT.weak (pt_chain h1 h1' ha hb hc hm) fun σ H Q q => ?_
  obtain ⟨e, he, hf⟩ := tT_tst σ H Q q
  exact tD_ch h2 h2' σ H _ ⟨e, he, hf⟩
/-- truth -/
def truD : D → Res Bool
  | .non => .ok false
  | .bl b => .ok b
  | .int i => .ok (i != 0)
  | .str l => if l.length ≤ sizeLine then .ok (!l.isEmpty) else .bad
  | .tup l => .ok (!l.isEmpty)
  | .lst l => .ok (!l.isEmpty)
def truF (f : En → Res D) : En → Res Bool := fun e => rb (f e) truD
theorem pdt_tru (ha : PE X a (tD X.K W fa)) (he : ∀ whole, isTrue a X.env whole = (do let v ← whole; standAt a.pos; holding [v] (truthy v)) := by intro _; rfl) : PT X a (tT X.K W (truF fa)) := by
  refine PT.weak (pt_truth ha he) ?_
  rintro σ H Q ⟨e, he, hf⟩
  refine ⟨e, he, ?_⟩
  unfold truF at hf
  cases h1 : fa e with
  | bad => rw [h1] at hf; exact hf
  | exc c => rw [h1] at hf; exact hf
  | ok d =>
    rw [h1, rb_ok] at hf
    intro v H1 s1 r1
    have isE : ∀ {ds : List D} {vs : List V}, RpAll X.K H1 ds vs → vs.isEmpty = ds.isEmpty := fun {ds vs} r => by
      have := r.length
      cases ds <;> cases vs <;> simp at this ⊢
    cases d with
    | non => cases r1; exact ⟨false, rfl, hf H1 s1⟩
    | bl b => cases r1; exact ⟨b, rfl, hf H1 s1⟩
    | int i => cases r1; exact ⟨_, rfl, hf H1 s1⟩
    | str l =>
      cases r1
      simp only [truD] at hf
      split at hf
      · rename_i hl
        refine ⟨_, ⟨by simpa [Str.length] using hl, ?_⟩, hf H1 s1⟩
        cases l with
        | nil => rfl
        | cons c r =>
          have h0 : (((S (c :: r)).length : Nat) : Int) ≠ 0 := by simp [Str.length]; omega
          have h1 : ((((S (c :: r)).length : Nat) : Int) != 0) = true := bne_iff_ne.mpr h0
          rw [h1]
          rfl
      · exact hf.elim
    | tup l =>
      obtain ⟨p, xs, rfl, h2, h3⟩ := r1
      exact ⟨_, .inr (.inl ⟨xs, h2, rfl⟩), by rw [isE h3]; exact hf H1 s1⟩
    | lst l =>
      obtain ⟨p, xs, rfl, h2, h3⟩ := r1
      exact ⟨_, .inl ⟨xs, h2, rfl⟩, by rw [isE h3]; exact hf H1 s1⟩
variable {ta tb : En → Res Bool} {rest : List Expr}
def notF (t : En → Res Bool) : En → Res Bool := fun e => rb (t e) fun b => .ok (!b)
def andF (t u : En → Res Bool) : En → Res Bool := fun e => rb (t e) fun b => if b then u e else .ok false
def orF (t u : En → Res Bool) : En → Res Bool := fun e => rb (t e) fun b => if b then .ok true else u e
theorem pdt_not (ha : PT X a (tT X.K W ta)) : PT X (.UnaryOp .Not a pos) (tT X.K W (notF ta)) := by
  refine PT.weak (pt_not ha) ?_
  rintro σ H Q ⟨e, he, hf⟩
  refine ⟨e, he, ?_⟩
  unfold notF at hf
  cases h1 : ta e with
  | bad => rw [h1] at hf; exact hf
  | exc c => rw [h1] at hf; exact hf
  | ok b => rw [h1] at hf; exact hf
theorem pdw_and1 (ha : PT X a (tT X.K W ta)) : PW X (.BoolOp .And [a] pos) (tT X.K W ta) := pw_and1 ha
theorem pdw_or1 (ha : PT X a (tT X.K W ta)) : PW X (.BoolOp .Or [a] pos) (tT X.K W ta) := pw_or1 ha
theorem pdw_and (ha : PT X a (tT X.K W ta)) (hb : PW X (.BoolOp .And (b :: rest) pos) (tT X.K W tb)) : PW X (.BoolOp .And (a :: b :: rest) pos) (tT X.K W (andF ta tb)) := by
  refine PW.weak (pw_and ha hb) ?_
  rintro σ H Q ⟨e, he, hf⟩
  refine ⟨e, he, ?_⟩
  unfold andF at hf
  cases h1 : ta e with
  | bad => rw [h1] at hf; exact hf
  | exc c => rw [h1] at hf; exact hf
  | ok k =>
    rw [h1, rb_ok] at hf
    intro H1 s1
    cases k with
    | false => simp only [Bool.false_eq_true, if_false] at hf ⊢; exact hf H1 s1
    | true =>
      simp only [if_true] at hf ⊢
      refine ⟨e, he.mono s1, ?_⟩
      cases h2 : tb e with
      | bad => rw [h2] at hf; exact hf
      | exc c => rw [h2] at hf; exact fun H' q => hf H' (s1.trans q)
      | ok k2 => rw [h2] at hf; exact fun H' q => hf H' (s1.trans q)
theorem pdw_or (ha : PT X a (tT X.K W ta)) (hb : PW X (.BoolOp .Or (b :: rest) pos) (tT X.K W tb)) : PW X (.BoolOp .Or (a :: b :: rest) pos) (tT X.K W (orF ta tb)) := by
  refine PW.weak (pw_or ha hb) ?_
  rintro σ H Q ⟨e, he, hf⟩
  refine ⟨e, he, ?_⟩
  unfold orF at hf
  cases h1 : ta e with
  | bad => rw [h1] at hf; exact hf
  | exc c => rw [h1] at hf; exact hf
  | ok k =>
    rw [h1, rb_ok] at hf
    intro H1 s1
    cases k with
    | true => simp only [if_true] at hf ⊢; exact hf H1 s1
    | false =>
      simp only [Bool.false_eq_true, if_false] at hf ⊢
      refine ⟨e, he.mono s1, ?_⟩
      cases h2 : tb e with
      | bad => rw [h2] at hf; exact hf
      | exc c => rw [h2] at hf; exact fun H' q => hf H' (s1.trans q)
      | ok k2 => rw [h2] at hf; exact fun H' q => hf H' (s1.trans q)
/-- values of and, or, not where all but the last are bools -/
def notV (f : En → Res D) : En → Res D := fun e => rb (f e) fun d => rb (isBl d) fun b => .ok (.bl (!b))
def andV (f g : En → Res D) : En → Res D := fun e => rb (f e) fun d => rb (isBl d) fun b => if b then g e else .ok (.bl false)
def orV (f g : En → Res D) : En → Res D := fun e => rb (f e) fun d => rb (isBl d) fun b => if b then .ok (.bl true) else g e
theorem pd_not (ha : PE X a (tD X.K W fa)) : PE X (.UnaryOp .Not a pos) (tD X.K W (notV fa)) := by
  refine PE.weak (pe_not ha) ?_
  rintro σ H Q ⟨e, he, hf⟩
  refine ⟨e, he, ?_⟩
  unfold notV at hf
  cases h1 : fa e with
  | bad => rw [h1] at hf; exact hf
  | exc c => rw [h1] at hf; exact hf
  | ok d =>
    rw [h1, rb_ok] at hf
    intro v H1 s1 r1
    cases d with
    | bl b => cases r1; exact ⟨b, rfl, hf _ H1 s1 rfl⟩
    | _ => exact (hf : False).elim
theorem pd_one {op : BoolOp} (h : PE X a (tD X.K W fa)) : PE X (.BoolOp op [a] pos) (tD X.K W fa) := pe_one h
theorem pd_and (ha : PE X a (tD X.K W fa)) (hb : PE X (.BoolOp .And (b :: rest) pos) (tD X.K W fb)) : PE X (.BoolOp .And (a :: b :: rest) pos) (tD X.K W (andV fa fb)) := by
  refine PE.weak (pe_and ha hb) ?_
  rintro σ H Q ⟨e, he, hf⟩
  refine ⟨e, he, ?_⟩
  unfold andV at hf
  cases h1 : fa e with
  | bad => rw [h1] at hf; exact hf
  | exc c => rw [h1] at hf; exact hf
  | ok d =>
    rw [h1, rb_ok] at hf
    intro v H1 s1 r1
    cases d with
    | bl k =>
      cases r1
      refine ⟨k, rfl, ?_⟩
      simp only [isBl, rb_ok] at hf
      cases k with
      | false => simp only [Bool.false_eq_true, if_false] at hf ⊢; exact hf _ H1 s1 rfl
      | true =>
        simp only [if_true] at hf ⊢
        refine ⟨e, he.mono s1, ?_⟩
        cases h2 : fb e with
        | bad => rw [h2] at hf; exact hf
        | exc c => rw [h2] at hf; exact fun H' q => hf H' (s1.trans q)
        | ok k2 => rw [h2] at hf; exact fun v H' q => hf v H' (s1.trans q)
    | _ => exact (hf : False).elim
theorem pd_or (ha : PE X a (tD X.K W fa)) (hb : PE X (.BoolOp .Or (b :: rest) pos) (tD X.K W fb)) : PE X (.BoolOp .Or (a :: b :: rest) pos) (tD X.K W (orV fa fb)) := by
  refine PE.weak (pe_or ha hb) ?_
  rintro σ H Q ⟨e, he, hf⟩
  refine ⟨e, he, ?_⟩
  unfold orV at hf
  cases h1 : fa e with
  | bad => rw [h1] at hf; exact hf
  | exc c => rw [h1] at hf; exact hf
  | ok d =>
    rw [h1, rb_ok] at hf
    intro v H1 s1 r1
    cases d with
    | bl k =>
      cases r1
      refine ⟨k, rfl, ?_⟩
      simp only [isBl, rb_ok] at hf
      cases k with
      | true => simp only [if_true] at hf ⊢; exact hf _ H1 s1 rfl
      | false =>
        simp only [Bool.false_eq_true, if_false] at hf ⊢
        refine ⟨e, he.mono s1, ?_⟩
        cases h2 : fb e with
        | bad => rw [h2] at hf; exact hf
        | exc c => rw [h2] at hf; exact fun H' q => hf H' (s1.trans q)
        | ok k2 => rw [h2] at hf; exact fun v H' q => hf v H' (s1.trans q)
    | _ => exact (hf : False).elim
/-- a if t else b -/
def ifF {α : Type} (t : En → Res Bool) (f g : En → Res α) : En → Res α := fun e => rb (t e) fun b => if b then f e else g e
theorem pd_if (hc : PT X c (tT X.K W ta)) (ha : PE X a (tD X.K W fa)) (hb : PE X b (tD X.K W fb)) : PE X (.IfExp c a b pos) (tD X.K W (ifF ta fa fb)) := by
  refine PE.weak (pe_ifExp hc ha hb) ?_
  rintro σ H Q ⟨e, he, hf⟩
  refine ⟨e, he, ?_⟩
  unfold ifF at hf
  cases h1 : ta e with
  | bad => rw [h1] at hf; exact hf
  | exc c => rw [h1] at hf; exact hf
  | ok k =>
    rw [h1, rb_ok] at hf
    intro H1 s1
    cases k with
    | false =>
      simp only [Bool.false_eq_true, if_false] at hf ⊢
      refine ⟨e, he.mono s1, ?_⟩
      cases h2 : fb e with
      | bad => rw [h2] at hf; exact hf
      | exc c => rw [h2] at hf; exact fun H' q => hf H' (s1.trans q)
      | ok k2 => rw [h2] at hf; exact fun v H' q => hf v H' (s1.trans q)
    | true =>
      simp only [if_true] at hf ⊢
      refine ⟨e, he.mono s1, ?_⟩
      cases h2 : fa e with
      | bad => rw [h2] at hf; exact hf
      | exc c => rw [h2] at hf; exact fun H' q => hf H' (s1.trans q)
      | ok k2 => rw [h2] at hf; exact fun v H' q => hf v H' (s1.trans q)

/-! ### subscripts, slices -/
def ixO : D → D → Option D
  | .tup xs, .int i => atI xs i
  | .lst xs, .int i => atI xs i
  | .str l, .int i => if l.length ≤ sizeLine then (atI l i).map fun c => .str [c] else none
  | _, _ => none
theorem atI_Rp {H : Hp} {ds : List D} {vs : List V} {i : Int} {d : D} (r : RpAll K H ds vs) (h : atI ds i = some d) : ∃ v, atI vs i = some v ∧ Rp K H d v := by
  unfold atI at h ⊢
  rw [← r.length]
  cases e : ixN ds.length i with
  | none => rw [e] at h; cases h
  | some j =>
    rw [e] at h
    exact r.get h
theorem ixO_D : OpD K (rIx K) ixO := by
  intro x y H Q d e z r1 r2 hz q
  unfold ixO at hz
  split at hz
  · obtain ⟨p, vs, rfl, h1, h2⟩ := r1
    cases r2
    obtain ⟨v, e1, e2⟩ := atI_Rp h2 hz
    exact .inr (.inl ⟨p, vs, _, v, rfl, rfl, h1, e1, q v H (Same.refl H) e2⟩)
  · obtain ⟨p, vs, rfl, h1, h2⟩ := r1
    cases r2
    obtain ⟨v, e1, e2⟩ := atI_Rp h2 hz
    exact .inl ⟨p, vs, _, v, rfl, rfl, h1, e1, q v H (Same.refl H) e2⟩
  · cases r1; cases r2
    rename_i l i
    by_cases hl : l.length ≤ sizeLine
    · rw [if_pos hl] at hz
      cases hc : atI l i with
      | none => rw [hc] at hz; cases hz
      | some c =>
        rw [hc] at hz
        cases hz
        exact .inr (.inr ⟨S l, i, c, rfl, rfl, by simpa [Str.length] using hl, by simpa using hc, q _ H (Same.refl H) rfl⟩)
    · rw [if_neg hl] at hz; cases hz
  · cases hz
theorem pd_ix (ha : PE X a (tD X.K W fa)) (hb : PE X b (tD X.K W fb)) (hs : PlainIx b := by exact fun _ _ => rfl) : PE X (.Subscript a b pos) (tD X.K W (bopF ixO fa fb)) := PE.weak (pe_ix ix_seq ha hb hs) (tD_op ixO_D)
/-- a slice's part -/
def intO : D → Res (Option Int)
  | .int i => .ok (some i)
  | _ => .bad
def noP : En → Res (Option Int) := fun _ => .ok none
def soP (f : En → Res D) : En → Res (Option Int) := fun e => rb (f e) intO
theorem pdo_none : PO X none (tO X.K W noP) := PO.weak po_none fun σ H Q ⟨e, he, hf⟩ => hf H (Same.refl H)
theorem pdo_some (ha : PE X a (tD X.K W fa)) : PO X (some a) (tO X.K W (soP fa)) := by
  refine PO.weak (po_some ha) ?_
  rintro σ H Q ⟨e, he, hf⟩
  refine ⟨e, he, ?_⟩
  unfold soP at hf
  cases h1 : fa e with
  | bad => rw [h1] at hf; exact hf
  | exc c => rw [h1] at hf; exact hf
  | ok d =>
    rw [h1, rb_ok] at hf
    intro v H1 s1 r1
    cases d with
    | int i => cases r1; exact ⟨i, rfl, hf H1 s1⟩
    | _ => exact (hf : False).elim
def cutL {α : Type} (xs : List α) (lo hi : Option Int) : List α := (xs.drop (HT.sIx xs.length 0 lo)).take (HT.sIx xs.length xs.length hi - HT.sIx xs.length 0 lo)
theorem cut_Rp {H : Hp} {ds : List D} {vs : List V} (lo hi : Option Int) (r : RpAll K H ds vs) : RpAll K H (cutL ds lo hi) (cutV vs lo hi) := by
  unfold cutL cutV
  rw [← r.length]
  exact (r.drop _).take _
/-- a text's or tuple's slice -/
def slO (d : D) (lo hi : Option Int) : Option D := match d with
  | .str l => if l.length ≤ sizeLine then some (.str (cutL l lo hi)) else none
  | .tup xs => some (.tup (cutL xs lo hi))
  | _ => none
def slN (d : D) (lo hi : Option Int) : Option (List D) := match d with
  | .lst xs => some (cutL xs lo hi)
  | _ => none
def slF {α : Type} (g : D → Option Int → Option Int → Option α) (f : En → Res D) (p q : En → Res (Option Int)) : En → Res α := fun e => rb (f e) fun d => rb (p e) fun lo => rb (q e) fun hi => ofO (g d lo hi)
variable {lo hi : Option Expr} {fl fh : En → Res (Option Int)} {p2 : Pos}
theorem sl_walk {r : V → Option Int → Option Int → Hp → VK → Prop} {Fi : L2.St → Hp → VK → Prop} {f : En → Res D} {σ : L2.St} {H : Hp} {Q : VK} {e : En} (he : EnvOk K H σ e)
    (hf : Fin K W σ H (fun x H1 => FinO K W σ H1 (fun l H2 => FinO K W σ H2 (fun u H3 => r x l u H3 Q) (fh e)) (fl e)) (f e)) : tSl r (tD K W f) (tO K W fl) (tO K W fh) σ H Q := by
  refine ⟨e, he, ?_⟩
  cases h1 : f e with
  | bad => rw [h1] at hf; exact hf
  | exc c => rw [h1] at hf; exact hf
  | ok d =>
    rw [h1] at hf
    intro v H1 s1 r1
    refine ⟨e, he.mono s1, ?_⟩
    have hf1 := hf v H1 s1 r1
    cases h2 : fl e with
    | bad => rw [h2] at hf1; exact hf1
    | exc c => rw [h2] at hf1; exact hf1
    | ok l =>
      rw [h2] at hf1
      intro H2 s2
      exact ⟨e, (he.mono s1).mono s2, hf1 H2 s2⟩
theorem sl_fin {α : Type} {g : D → Option Int → Option Int → Option α} {f : En → Res D} {σ : L2.St} {H : Hp} {e : En} {Fi : Res α → Prop} {R : V → Option Int → Option Int → Hp → Prop}
    (hx : ∀ c, Fi (.exc c) → ∀ H', Same H H' → W c σ H') (hb : Fi .bad → False) (hf : Fi (slF g f fl fh e))
    (hok : ∀ d lo hi z v H', g d lo hi = some z → Same H H' → Rp K H' d v → Fi (.ok z) → R v lo hi H') :
    Fin K W σ H (fun x H1 => FinO K W σ H1 (fun l H2 => FinO K W σ H2 (fun u H3 => R x l u H3) (fh e)) (fl e)) (f e) := by
  unfold slF at hf
  cases h1 : f e with
  | bad => rw [h1] at hf; exact hb hf
  | exc c => rw [h1] at hf; exact hx c hf
  | ok d =>
    rw [h1, rb_ok] at hf
    intro v H1 s1 r1
    cases h2 : fl e with
    | bad => rw [h2] at hf; exact hb hf
    | exc c => rw [h2] at hf; exact fun H' q => hx c hf H' (s1.trans q)
    | ok l =>
      rw [h2, rb_ok] at hf
      intro H2 s2
      cases h3 : fh e with
      | bad => rw [h3] at hf; exact hb hf
      | exc c => rw [h3] at hf; exact fun H' q => hx c hf H' ((s1.trans s2).trans q)
      | ok u =>
        rw [h3, rb_ok] at hf
        intro H3 s3
        cases h4 : g d l u with
        | none => rw [h4] at hf; exact (hb hf).elim
        | some z =>
          rw [h4] at hf
          exact hok d l u z v H3 h4 ((s1.trans s2).trans s3) ((r1.mono s2).mono s3) hf
theorem pd_sl (ha : PE X a (tD X.K W fa)) (hl : PO X lo (tO X.K W fl)) (hu : PO X hi (tO X.K W fh)) : PE X (.Subscript a (.Slice lo hi none p2) pos) (tD X.K W (slF slO fa fl fh)) := by
  refine PE.weak (pe_slice (sl_str.or sl_tupA) ha hl hu) ?_
  rintro σ H Q ⟨e, he, hf⟩
  refine sl_walk (Fi := fun _ _ _ => True) he (sl_fin (Fi := Fin X.K W σ H Q) (fun c h => h) (fun h => h) hf fun d lo hi z v H' hz s r q => ?_)
  cases d with
  | str l =>
    cases r
    simp only [slO] at hz
    split at hz
    · rename_i hl
      cases hz
      refine .inl ⟨S l, rfl, by simpa [Str.length] using hl, q _ H' s ?_⟩
      show V.str (cutS (S l) lo hi) = V.str (S (cutL l lo hi))
      simp [cutS, cutL, S, Str.length]
    · cases hz
  | tup xs =>
    obtain ⟨p, vs, rfl, h1, h2⟩ := r
    simp only [slO] at hz
    cases hz
    refine .inr ⟨p, vs, rfl, h1, fun ⟨w1, w2⟩ => ?_, fun _ p' hp => ?_⟩
    · have e1 : cutL xs lo hi = xs := by
        unfold cutL
        rw [h2.length, w1, w2, ← h2.length]
        simp
      rw [e1] at q
      exact q _ H' s ⟨p, vs, rfl, h1, h2⟩
    · exact q _ _ (s.trans (same_new hp)) ⟨p', _, rfl, SqT.of upd_same, (cut_Rp lo hi h2).mono (same_new hp)⟩
  | _ => simp [slO] at hz
theorem pn_sl (ha : PE X a (tD X.K W fa)) (hl : PO X lo (tO X.K W fl)) (hu : PO X hi (tO X.K W fh)) : PE X (.Subscript a (.Slice lo hi none p2) pos) (tN X.K W (slF slN fa fl fh)) := by
  refine PE.weak (pe_slice sl_list ha hl hu) ?_
  rintro σ H Q ⟨e, he, hf⟩
  refine sl_walk (Fi := fun _ _ _ => True) he (sl_fin (Fi := FinN X.K W σ H Q) (fun c h => h) (fun h => h) hf fun d lo hi z v H' hz s r q => ?_)
  cases d with
  | lst xs =>
    obtain ⟨p, vs, rfl, h1, h2⟩ := r
    simp only [slN] at hz
    cases hz
    exact ⟨p, vs, rfl, h1, fun p' hp => q p' _ _ (s.free hp) (s.trans (same_new hp)) upd_same ((cut_Rp lo hi h2).mono (same_hide1 hp))⟩
  | _ => simp [slN] at hz
end
end FM

set_option Elab.async false
set_option linter.all false
set_option maxRecDepth 100000
/-! FM3: targets, what is walked, comprehensions; statements on plain data. -/
namespace FM
open PySem PySem.Spec PyProof.Rows L2

/-! ### targets -/
inductive Tg where
  | nm (i : Nat)
  | tp (ts : List Tg)
mutual
def gT (K : PySem.W.Frag) : Tg → TG
  | .nm i => gName i
  | .tp ts => gTup K ts.length (gTs K ts)
def gTs (K : PySem.W.Frag) : List Tg → TGs
  | [] => gNil
  | t :: r => gCons (gT K t) (gTs K r)
end
def setN (i : Nat) (d : D) (e : En) : Res En := if d.lf || noOwn e then .ok (e.set i (.dat d)) else .bad
mutual
def setT : Tg → D → En → Res En
  | .nm i, d, e => setN i d e
  | .tp ts, .tup ds, e => if ts.length = ds.length then setTs ts ds e else .bad
  | .tp _, _, _ => .bad
def setTs : List Tg → List D → En → Res En
  | [], _, e => .ok e
  | t :: r, d :: ds, e => rb (setT t d e) fun e1 => setTs r ds e1
  | _ :: _, [], _ => .bad
end
mutual
def Tg.slots : Tg → List Nat
  | .nm i => [i]
  | .tp ts => slotsAll ts
def slotsAll : List Tg → List Nat
  | [] => []
  | t :: r => t.slots ++ slotsAll r
end
section
variable {K : PySem.W.Frag} {H : Hp} {X : Cx} {W : Wx}
theorem pgT_nm (i : Nat) {x : Str} {pos : Pos} (hN : X.N.Nodup) (hi : X.N[i]? = some x := by rfl) (hx : Loc X.env.scope x := by first | exact .inl rfl | exact .inr rfl) (hf : X.fn x = true ∨ X.env.scope.names.lookup x = some .local := by first | exact .inl rfl | exact .inr rfl) :
    PG X (.Name x pos) (gT X.K (.nm i)) := pg_name hN hi hx hf
theorem pgT_nil : PGs X [] (gTs X.K []) := pgs_nil
theorem pgT_cons {e : Expr} {es : List Expr} {t : Tg} {r : List Tg} (h1 : PG X e (gT X.K t)) (h2 : PGs X es (gTs X.K r)) (hs : (assignEach (e :: es) X.env).map (·.2) = assign e X.env :: (assignEach es X.env).map (·.2) := by rfl) :
    PGs X (e :: es) (gTs X.K (t :: r)) := pgs_cons h1 h2 hs
theorem pgT_tp {es : List Expr} {k : Nat} {ts : List Tg} {pos : Pos} (hc : X.calm = true) (h : PGs X es (gTs X.K ts)) (hn : (assignEach es X.env).length = ts.length := by rfl) (hst : (assignEach es X.env).findIdx? (·.1) = none := by rfl) :
    PG X (.Tuple es k pos) (gT X.K (.tp ts)) := pg_tup hc h hn hst
mutual
theorem gT_env {vs : List Nat} : ∀ {t : Tg} {d : D} {v : V} {σ : L2.St} {e e' : En} {Q : L2.St → Hp → Prop}, (∀ i ∈ t.slots, i ∈ vs) → EnvOk K H σ e → Rp K H d v → setT t d e = .ok e' →
    (∀ σ', EnvOk K H σ' e' → (∀ j, j ∉ vs → σ'[j]? = σ[j]?) → Q σ' H) → gT K t v σ H Q
  | .nm i, d, v, σ, e, e', Q, hs, he, r, hz, q => by
    simp only [setT, setN] at hz
    split at hz
    · cases hz
      refine q _ (he.set r) fun j hj => ?_
      have : i ≠ j := fun z => hj (z ▸ hs i (by simp [Tg.slots]))
      rw [List.getElem?_set_ne this]
    · cases hz
  | .tp ts, d, v, σ, e, e', Q, hs, he, r, hz, q => by
    cases d with
    | tup ds =>
      simp only [setT] at hz
      split at hz
      · rename_i hl
        obtain ⟨a, xs, rfl, h1, h2⟩ := r
        exact ⟨a, xs, rfl, h1, by rw [← h2.length, hl], gTs_env (by simpa [Tg.slots] using hs) he h2 hl hz q⟩
      · cases hz
    | _ => simp [setT] at hz
theorem gTs_env {vs : List Nat} : ∀ {ts : List Tg} {ds : List D} {xs : List V} {σ : L2.St} {e e' : En} {Q : L2.St → Hp → Prop}, (∀ i ∈ slotsAll ts, i ∈ vs) → EnvOk K H σ e → RpAll K H ds xs → ts.length = ds.length → setTs ts ds e = .ok e' →
    (∀ σ', EnvOk K H σ' e' → (∀ j, j ∉ vs → σ'[j]? = σ[j]?) → Q σ' H) → gTs K ts xs σ H Q
  | [], ds, xs, σ, e, e', Q, hs, he, r, hl, hz, q => by
    have : ds = [] := List.eq_nil_of_length_eq_zero (by simpa using hl.symm)
    subst this
    cases r
    simp only [setTs] at hz
    cases hz
    exact ⟨rfl, q σ he fun _ _ => rfl⟩
  | t :: ts, [], xs, σ, e, e', Q, hs, he, r, hl, hz, q => by simp at hl
  | t :: ts, d :: ds, xs, σ, e, e', Q, hs, he, r, hl, hz, q => by
    obtain ⟨v, vr, rfl, r1, r2⟩ := r
    simp only [setTs] at hz
    cases h1 : setT t d e with
    | bad => rw [h1] at hz; cases hz
    | exc c => rw [h1] at hz; cases hz
    | ok e1 =>
      rw [h1, rb_ok] at hz
      refine ⟨v, vr, rfl, gT_env (vs := vs) (fun i hi => hs i (by simp [slotsAll, hi])) he r1 h1 fun σ1 he1 k1 => ?_⟩
      exact gTs_env (fun i hi => hs i (by simp [slotsAll, hi])) he1 r2 (by simpa using hl) hz fun σ2 he2 k2 => q σ2 he2 fun j hj => (k2 j hj).trans (k1 j hj)
end
theorem wipe_get (σ : L2.St) : ∀ (vs : List Nat) (j : Nat), (wipe σ vs)[j]? = if j ∈ vs then σ[j]?.map (fun _ => none) else σ[j]?
  | [], j => by simp [wipe]
  | v :: vs, j => by
    unfold wipe
    have ih := wipe_get σ vs j
    by_cases hj : v = j
    · subst hj
      simp only [List.mem_cons, true_or, if_true]
      by_cases hl : v < σ.length
      · rw [List.getElem?_set_self (by rw [wipe_length]; exact hl), List.getElem?_eq_getElem hl]
        rfl
      · have e1 : σ[v]? = none := List.getElem?_eq_none (by omega)
        rw [e1, List.getElem?_eq_none (by rw [List.length_set, wipe_length]; omega)]
        rfl
    · rw [List.getElem?_set_ne hj, ih]
      have : j ≠ v := fun z => hj z.symm
      simp [this]
theorem wipe_of {σ σ' : L2.St} {vs : List Nat} (hl : σ'.length = σ.length) (h : ∀ j, j ∉ vs → σ'[j]? = (wipe σ vs)[j]?) : wipe σ' vs = wipe σ vs := by
  refine List.ext_getElem? fun j => ?_
  rw [wipe_get, wipe_get]
  by_cases hj : j ∈ vs
  · rw [if_pos hj, if_pos hj]
    by_cases hb : j < σ.length
    · rw [List.getElem?_eq_getElem hb, List.getElem?_eq_getElem (by omega)]; rfl
    · rw [List.getElem?_eq_none (by omega : σ.length ≤ j), List.getElem?_eq_none (by omega : σ'.length ≤ j)]
  · rw [if_neg hj, if_neg hj]
    have := h j hj
    rw [wipe_get, if_neg hj] at this
    exact this

/-! ### what is walked -/
/-- J walks the items, wherever F stands -/
def ItOk (K : PySem.W.Frag) (J : It) (F : Hp) (items : List D) : Prop := ∀ H, Same F H → (∀ (i : Nat) d, items[i]? = some d → J.go i H ∧ ∀ x H', J.yld i H x H' → Same H H' ∧ Rp K H' d x) ∧ ∀ i, items.length ≤ i → J.stop i H
theorem ItOk.mono {J : It} {F F' : Hp} {items : List D} (s : Same F F') (h : ItOk K J F items) : ItOk K J F' items := fun H q => h H (s.trans q)
def FinI (K : PySem.W.Frag) (W : Wx) (σ : L2.St) (H : Hp) (R : It → Hp → Prop) : Res (List D) → Prop
  | .ok items => ∀ J H', Same H H' → ItOk K J H' items → R J H'
  | .exc c => ∀ H', Same H H' → W c σ H'
  | .bad => False
def tI (K : PySem.W.Frag) (W : Wx) (f : En → Res (List D)) : TI := fun σ H R => ∃ e, EnvOk K H σ e ∧ FinI K W σ H R (f e)
theorem PI.weak {tg iter : Expr} {t t' : TI} (h : PI X tg iter t) (w : ∀ σ H R, t' σ H R → t σ H R) : PI X tg iter t' := ⟨fun pins s σ H R I q => h.run pins s σ H R I (w σ H R q)⟩
theorem it_list {F : Hp} {a : Addr} {xs : List V} {ds : List D} (h : SqL K F a xs) (r : RpAll K F ds xs) : ItOk K (Itl K a) F ds := by
  intro H s
  refine ⟨fun i d hd => ?_, fun i hi => ⟨xs, s.seq h, by rw [← r.length]; exact hi⟩⟩
  obtain ⟨v, hv, hr⟩ := r.get hd
  refine ⟨⟨xs, v, s.seq h, hv⟩, fun x H' ⟨e, y⟩ => ?_⟩
  subst e
  have := y xs (s.seq h)
  rw [hv] at this
  cases this
  exact ⟨Same.refl _, hr.mono s⟩
theorem it_tup {F : Hp} {a : Addr} {xs : List V} {ds : List D} (h : SqT K F a xs) (r : RpAll K F ds xs) : ItOk K (Itt K a) F ds := by
  intro H s
  refine ⟨fun i d hd => ?_, fun i hi => ⟨xs, Same.sqT s h, by rw [← r.length]; exact hi⟩⟩
  obtain ⟨v, hv, hr⟩ := r.get hd
  refine ⟨⟨xs, v, Same.sqT s h, hv⟩, fun x H' ⟨e, y⟩ => ?_⟩
  subst e
  have := y xs (Same.sqT s h)
  rw [hv] at this
  cases this
  exact ⟨Same.refl _, hr.mono s⟩
def rgD (lo : Int) (n : Nat) : List D := (List.range n).map fun i => .int (lo + (i : Nat))
theorem it_rng {F : Hp} (lo : Int) (n : Nat) : ItOk K (Itr lo n) F (rgD lo n) := by
  intro H s
  refine ⟨fun i d hd => ?_, fun i hi => show n ≤ i by simpa [rgD] using hi⟩
  have hi : i < n := by have := (List.getElem?_eq_some_iff.mp hd).1; simpa [rgD] using this
  refine ⟨hi, fun x H' ⟨e, y⟩ => ?_⟩
  subst e y
  have : (rgD lo n)[i]? = some (.int (lo + (i : Nat))) := by simp [rgD, hi]
  rw [this] at hd
  cases hd
  exact ⟨Same.refl _, rfl⟩
def chD (l : List Nat) : List D := l.map fun c => .str [c]
theorem it_str {F : Hp} (l : List Nat) : ItOk K (Its (S l)) F (chD l) := by
  intro H s
  refine ⟨fun i d hd => ?_, fun i hi => show (S l).cps.size ≤ i by simpa [chD] using hi⟩
  have hi : i < l.length := by have := (List.getElem?_eq_some_iff.mp hd).1; simpa [chD] using this
  refine ⟨show i < (S l).cps.size by simpa using hi, fun x H' ⟨e, c, hc, y⟩ => ?_⟩
  subst e y
  have h1 : l[i]? = some c := by simpa using hc
  have : (chD l)[i]? = some (.str [c]) := by simp [chD, h1]
  rw [this] at hd
  cases hd
  exact ⟨Same.refl _, rfl⟩
def asLst : D → Res (List D)
  | .lst xs => .ok xs
  | _ => .bad
def asTup : D → Res (List D)
  | .tup xs => .ok xs
  | _ => .bad
def asStr : D → Res (List D)
  | .str l => .ok (chD l)
  | _ => .bad
def asRng1 : List D → Res (List D)
  | [.int j] => if j.natAbs < 2 ^ 62 then .ok (rgD 0 j.toNat) else .bad
  | _ => .bad
def asRng2 : List D → Res (List D)
  | [.int i, .int j] => if i.natAbs < 2 ^ 62 ∧ j.natAbs < 2 ^ 62 then .ok (rgD i (j - i).toNat) else .bad
  | _ => .bad
def itF {α : Type} (g : α → Res (List D)) (f : En → Res α) : En → Res (List D) := fun e => rb (f e) g
variable {l tg : Expr} {f : En → Res D}
theorem pit_lst (hl : PE X l (tD X.K W f)) : PI X tg l (tI X.K W (itF asLst f)) := by
  refine PI.weak (pi_list hl) ?_
  rintro σ H R ⟨e, he, hf⟩
  refine ⟨e, he, ?_⟩
  unfold itF at hf
  cases h1 : f e with
  | bad => rw [h1] at hf; exact hf
  | exc c => rw [h1] at hf; exact hf
  | ok d =>
    rw [h1, rb_ok] at hf
    intro v H1 s1 r1
    cases d with
    | lst xs =>
      obtain ⟨a, vs, rfl, h2, h3⟩ := r1
      exact ⟨a, rfl, ⟨vs, h2⟩, hf _ H1 s1 (it_list h2 h3)⟩
    | _ => exact (hf : False).elim
theorem pit_tup (hl : PE X l (tD X.K W f)) : PI X tg l (tI X.K W (itF asTup f)) := by
  refine PI.weak (pi_tup hl) ?_
  rintro σ H R ⟨e, he, hf⟩
  refine ⟨e, he, ?_⟩
  unfold itF at hf
  cases h1 : f e with
  | bad => rw [h1] at hf; exact hf
  | exc c => rw [h1] at hf; exact hf
  | ok d =>
    rw [h1, rb_ok] at hf
    intro v H1 s1 r1
    cases d with
    | tup xs =>
      obtain ⟨a, vs, rfl, h2, h3⟩ := r1
      exact ⟨a, rfl, ⟨vs, h2⟩, hf _ H1 s1 (it_tup h2 h3)⟩
    | _ => exact (hf : False).elim
theorem pit_str (hl : PE X l (tD X.K W f)) : PI X tg l (tI X.K W (itF asStr f)) := by
  refine PI.weak (pi_str hl) ?_
  rintro σ H R ⟨e, he, hf⟩
  refine ⟨e, he, ?_⟩
  unfold itF at hf
  cases h1 : f e with
  | bad => rw [h1] at hf; exact hf
  | exc c => rw [h1] at hf; exact hf
  | ok d =>
    rw [h1, rb_ok] at hf
    intro v H1 s1 r1
    cases d with
    | str l =>
      cases r1
      exact ⟨S l, rfl, hf _ H1 s1 (it_str l)⟩
    | _ => exact (hf : False).elim
variable {fs : En → Res (List D)}
theorem wi_rng1 {σ : L2.St} {H : Hp} {R : It → Hp → Prop} {e : En} (he : EnvOk K H σ e) (hf : FinL K W σ H (fun vs H1 => ∃ j : Int, vs = [.int j] ∧ -(2 ^ 62) ≤ j ∧ j < 2 ^ 62 ∧ R (Itr 0 j.toNat) H1) (fs e)) : iRng1 (tDs K W fs) σ H R := ⟨e, he, hf⟩
theorem pit_rng1 {a : Expr} {p pos : Pos} (hg : Gl X "range") (hm : X.mg "range" = none) (ha : PA X [a] (tDs X.K W fs)) (hs : starEach [a] X.env = [(false, eval a X.env)] := by rfl) : PI X tg (.Call (.Name "range" p) [a] [] pos) (tI X.K W (itF asRng1 fs)) := by
  refine PI.weak (pi_range1 hg hm ha hs) ?_
  rintro σ H R ⟨e, he, hf⟩
  refine ⟨e, he, ?_⟩
  unfold itF at hf
  cases h1 : fs e with
  | bad => rw [h1] at hf; exact hf
  | exc c => rw [h1] at hf; exact hf
  | ok ds =>
    rw [h1, rb_ok] at hf
    intro vs H1 s1 r1
    unfold asRng1 at hf
    split at hf
    · rename_i j
      obtain ⟨v, r, rfl, rv, rr⟩ := r1
      cases rv; cases rr
      split at hf
      · rename_i hj
        exact ⟨j, rfl, by omega, by omega, hf _ H1 s1 (it_rng 0 _)⟩
      · exact hf.elim
    · exact (hf : False).elim
theorem pit_rng2 {a b : Expr} {p pos : Pos} (hg : Gl X "range") (hm : X.mg "range" = none) (ha : PA X [a, b] (tDs X.K W fs)) (hs : starEach [a, b] X.env = [(false, eval a X.env), (false, eval b X.env)] := by rfl) (hs2 : starEach [b] X.env = [(false, eval b X.env)] := by rfl) :
    PI X tg (.Call (.Name "range" p) [a, b] [] pos) (tI X.K W (itF asRng2 fs)) := by
  refine PI.weak (pi_range2 hg hm ha hs hs2) ?_
  rintro σ H R ⟨e, he, hf⟩
  refine ⟨e, he, ?_⟩
  unfold itF at hf
  cases h1 : fs e with
  | bad => rw [h1] at hf; exact hf
  | exc c => rw [h1] at hf; exact hf
  | ok ds =>
    rw [h1, rb_ok] at hf
    intro vs H1 s1 r1
    unfold asRng2 at hf
    split at hf
    · rename_i i j
      obtain ⟨v, r, rfl, rv, v2, r2, rfl, rv2, rr⟩ := r1
      cases rv; cases rv2; cases rr
      split at hf
      · rename_i hj
        exact ⟨i, j, rfl, ⟨by omega, by omega, by omega, by omega⟩, hf _ H1 s1 (it_rng i _)⟩
      · exact hf.elim
    · exact (hf : False).elim

/-! ### comprehensions -/
mutual
theorem setT_len : ∀ {t : Tg} {d : D} {e e' : En}, setT t d e = .ok e' → e'.length = e.length
  | .nm i, d, e, e', h => by
    simp only [setT, setN] at h
    split at h
    · cases h; simp
    · cases h
  | .tp ts, d, e, e', h => by
    cases d with
    | tup ds =>
      simp only [setT] at h
      split at h
      · exact setTs_len h
      · cases h
    | _ => simp [setT] at h
theorem setTs_len : ∀ {ts : List Tg} {ds : List D} {e e' : En}, setTs ts ds e = .ok e' → e'.length = e.length
  | [], ds, e, e', h => by simp only [setTs] at h; cases h; rfl
  | t :: ts, [], e, e', h => by simp [setTs] at h
  | t :: ts, d :: ds, e, e', h => by
    simp only [setTs] at h
    cases h1 : setT t d e with
    | bad => rw [h1] at h; cases h
    | exc c => rw [h1] at h; cases h
    | ok e1 =>
      rw [h1, rb_ok] at h
      exact (setTs_len h).trans (setT_len h1)
end
theorem hide1_mono {H H' : Hp} {B : Addr} (s : Same H H') : Same (hide1 B H) (hide1 B H') := fun b o q => by
  by_cases hb : b = B
  · have : hide1 B H b = none := hide_yes (O := fun b => b = B) hb
    rw [this] at q; cases q
  · have e1 : hide1 B H b = H b := hide_no (O := fun b => b = B) hb
    have e2 : hide1 B H' b = H' b := hide_no (O := fun b => b = B) hb
    rw [e1] at q
    rw [e2]
    exact s _ _ q
theorem hide1_upd {H H' : Hp} {B : Addr} {o : HO} (s : Same H H') : Same (hide1 B H) (hide1 B (upd H' B o)) := fun b u q => by
  by_cases hb : b = B
  · have : hide1 B H b = none := hide_yes (O := fun b => b = B) hb
    rw [this] at q; cases q
  · have e1 : hide1 B H b = H b := hide_no (O := fun b => b = B) hb
    have e2 : hide1 B (upd H' B o) b = upd H' B o b := hide_no (O := fun b => b = B) hb
    rw [e1] at q
    rw [e2, upd_ne hb]
    exact s _ _ q
def lcF (t : Tg) (tt : En → Res Bool) (te : En → Res D) (e : En) : List D → Res (List D)
  | [] => .ok []
  | d :: r => rb (setT t d e) fun e1 => rb (tt e1) fun b => if b then rb (te e1) fun y => if y.lf then rb (lcF t tt te e r) fun ys => .ok (y :: ys) else .bad else lcF t tt te e r
def compF (vs : List Nat) (fi : En → Res (List D)) (t : Tg) (tt : En → Res Bool) (te : En → Res D) : En → Res (List D) := fun e => rb (fi e) fun items => if items.length ≤ sizeLine then noX (lcF t tt te (wipeE e vs) items) else .bad
def yesF : En → Res Bool := fun _ => .ok true
theorem ptsD_nil : PTs X [] (tT X.K W yesF) := ⟨fun pins s σ H Q I ⟨e, he, hf⟩ => pts_nil.run pins s σ H Q I (hf H (Same.refl H))⟩
theorem ptsD_one {c : Expr} {t : En → Res Bool} (h : PT X c (tT X.K W t)) : PTs X [c] (tT X.K W t) := pts_one h
theorem tLc_D {vs : List Nat} {fi : En → Res (List D)} {t : Tg} {tt : En → Res Bool} {te : En → Res D} (hs : ∀ i ∈ t.slots, i ∈ vs) : ∀ σ H Q, tN K W (compF vs fi t tt te) σ H Q → tLc (tI K W fi) (gT K t) (tT K W0 tt) (tD K W0 te) vs σ H Q := by
  rintro σ H Q ⟨e, he, hf⟩
  refine ⟨e, he, ?_⟩
  unfold compF at hf
  cases h1 : fi e with
  | bad => rw [h1] at hf; exact hf
  | exc c => rw [h1] at hf; exact hf
  | ok items =>
    rw [h1, rb_ok] at hf
    by_cases hlen : items.length ≤ sizeLine
    · rw [if_pos hlen] at hf
      cases h2 : lcF t tt te (wipeE e vs) items with
      | bad => rw [h2] at hf; exact hf.elim
      | exc c => rw [h2] at hf; exact hf.elim
      | ok zs =>
        rw [h2, noX_ok] at hf
        intro J H1 s1 hJ B hB
        let P : Nat → Hp → Prop := fun i Hc => Same H1 (hide1 B Hc) ∧ ∃ acc ys zs', Hc B = some (.lst acc) ∧ RpAll K (hide1 B Hc) ys acc ∧ acc.length ≤ i ∧ lcF t tt te (wipeE e vs) (items.drop i) = .ok zs' ∧ zs = ys ++ zs'
        refine ⟨fun i m Hc => m = items.length - i ∧ i ≤ items.length ∧ P i Hc, ⟨items.length, by simp, Nat.zero_le _, same_hide1 hB, [], [], zs, upd_same, rfl, Nat.zero_le _, by simpa using h2, rfl⟩, ?_⟩
        rintro i m Hc ⟨rfl, hi, sm, acc, ys, zs', hD, hr, hal, hz, rfl⟩
        have sc : Same H1 Hc := sm.trans (hide_same _)
        obtain ⟨hgo, hstop⟩ := hJ Hc sc
        by_cases hlt : i < items.length
        · right
          have hd : items[i]? = some items[i] := List.getElem?_eq_getElem hlt
          obtain ⟨g1, g2⟩ := hgo i _ hd
          rw [List.drop_eq_getElem_cons hlt] at hz
          simp only [lcF] at hz
          refine ⟨g1, P (i + 1), fun H' p => ⟨items.length - (i + 1), by omega, rfl, hlt, p⟩, fun x H' hy => ?_⟩
          obtain ⟨s2, rx⟩ := g2 x H' hy
          have hD' : H' B = some (.lst acc) := s2 _ _ hD
          have eH : EnvOk K H' (wipe σ vs) (wipeE e vs) := ((((he.mono s1).mono sc).mono s2).wipe vs)
          cases h3 : setT t items[i] (wipeE e vs) with
          | bad => rw [h3] at hz; cases hz
          | exc c => rw [h3] at hz; cases hz
          | ok e1 =>
            rw [h3, rb_ok] at hz
            refine gT_env (vs := vs) hs eH rx h3 fun σ2 he2 hk => ⟨?_, e1, he2, ?_⟩
            · refine wipe_of ?_ hk
              have l1 := he2.len
              have l2 := eH.len
              have l3 : e1.length = (wipeE e vs).length := setT_len h3
              rw [wipe_length] at l2
              omega
            · cases h4 : tt e1 with
              | bad => rw [h4] at hz; cases hz
              | exc c => rw [h4] at hz; cases hz
              | ok b =>
                rw [h4, rb_ok] at hz
                intro H3 s3
                cases b with
                | false =>
                  simp only [Bool.false_eq_true, if_false] at hz ⊢
                  have sall : Same Hc H3 := s2.trans s3
                  have hh : Same (hide1 B Hc) (hide1 B H3) := hide1_mono sall
                  exact ⟨sm.trans hh, acc, ys, zs', sall _ _ hD, hr.mono hh, by omega, hz, rfl⟩
                | true =>
                  simp only [if_true] at hz ⊢
                  refine ⟨e1, he2.mono s3, ?_⟩
                  cases h5 : te e1 with
                  | bad => rw [h5] at hz; cases hz
                  | exc c => rw [h5] at hz; cases hz
                  | ok y =>
                    rw [h5, rb_ok] at hz
                    by_cases hy : y.lf = true
                    · rw [if_pos hy] at hz
                      cases h6 : lcF t tt te (wipeE e vs) (items.drop (i + 1)) with
                      | bad => rw [h6] at hz; cases hz
                      | exc c => rw [h6] at hz; cases hz
                      | ok zs2 =>
                        rw [h6, rb_ok] at hz
                        cases hz
                        intro v H4 s4 r4
                        have sall : Same Hc H4 := (s2.trans s3).trans s4
                        have hD4 := sall _ _ hD
                        have hh : Same (hide1 B Hc) (hide1 B (upd H4 B (.lst (acc ++ [v])))) := hide1_upd sall
                        refine ⟨acc, hD4, by omega, sm.trans hh, acc ++ [v], ys ++ [y], zs2, upd_same, (hr.mono hh).append ⟨v, [], rfl, ?_, rfl⟩, by simp; omega, h6, by simp⟩
                        have q := Rp.hide (O := fun b => b = B) (fun b hb => .inl ⟨acc, by rw [hb]; exact hD4⟩) hy r4
                        exact q.mono (hide1_upd (Same.refl _))
                    · rw [if_neg hy] at hz; cases hz
        · left
          have e2 : i = items.length := by omega
          subst e2
          rw [List.drop_length] at hz
          simp only [lcF] at hz
          cases hz
          refine ⟨hstop _ (Nat.le_refl _), hf B acc Hc (s1.free hB) (s1.trans sc) hD ?_⟩
          simpa using hr
    · rw [if_neg hlen] at hf; exact hf.elim
variable {elt iter : Expr} {ifs : List Expr} {scope : Scope} {own : List (Str × Nat)} {pos : Pos} {fi : En → Res (List D)} {t : Tg} {tt : En → Res Bool} {te : En → Res D}
theorem pn_lc (hc : X.calm = true) (hN : X.N.Nodup) (hi : PI X tg iter (tI X.K W fi)) (ok : BlkOk X.N X.env.scope scope own)
    (hg : ∀ (s : Shared) (H : Hp) (C : Addr) (cl : List (Str × Addr)) (fp : List Addr), PG (X.blk s H scope (compEnvC scope cl C X.env) fp) tg (gT X.K t)) (ht : ∀ (s : Shared) (H : Hp) (C : Addr) (cl : List (Str × Addr)) (fp : List Addr), PTs (X.blk s H scope (compEnvC scope cl C X.env) fp) ifs (tT X.K W0 tt))
    (he : ∀ (s : Shared) (H : Hp) (C : Addr) (cl : List (Str × Addr)) (fp : List Addr), PE (X.blk s H scope (compEnvC scope cl C X.env) fp) elt (tD X.K W0 te)) (hsl : ∀ i ∈ t.slots, i ∈ own.map (·.2) := by decide) (hs : ∀ x, foldedSetIterable iter X.env x = pure x := by intro _; rfl) :
    PE X (.ListComp elt [⟨tg, iter, ifs, 0⟩] scope pos) (tN X.K W (compF (own.map (·.2)) fi t tt te)) := PE.weak (pe_lc hc hN hi ok hg ht he hs) (tLc_D hsl)
end
end FM

set_option Elab.async false
set_option linter.all false
set_option maxRecDepth 100000
/-! FM4: statements on plain data: own lists, assignments, if, for, while, return; a def's body. -/
namespace FM
open PySem PySem.Spec PyProof.Rows L2

/-- the addresses of the lists and dicts that the frame's names own -/
def owns (σ : L2.St) (e : En) (a : Addr) : Prop := ∃ (i : Nat) (s : Sl), e[i]? = some s ∧ s.isOwn = true ∧ σ[i]? = some (some (.ref a))
def SlF (K : PySem.W.Frag) (F H : Hp) (o : Option (Option V)) : Sl → Prop
  | .un => True
  | .dat d => ∃ v, o = some (some v) ∧ Rp K F d v
  | .own xs => ∃ a vs, o = some (some (.ref a)) ∧ H a = some (.lst vs) ∧ RpAll K F xs vs
  | .dct kvs => ∃ a ws, o = some (some (.ref a)) ∧ H a = some (.dT ws) ∧ ws.map (·.1) = kvs.map (·.1) ∧ RpAll K F (kvs.map (·.2)) (ws.map (·.2))
structure StOk (K : PySem.W.Frag) (G H : Hp) (σ : L2.St) (e : En) : Prop where
  len : σ.length = e.length
  g : Same G (hide (owns σ e) H)
  at_ : ∀ (i : Nat) s, e[i]? = some s → SlF K (hide (owns σ e) H) H σ[i]? s
  dis : ∀ (i j : Nat) (a : Addr) s t, i ≠ j → e[i]? = some s → s.isOwn = true → e[j]? = some t → t.isOwn = true → σ[i]? = some (some (.ref a)) → σ[j]? ≠ some (some (.ref a))
section
variable {K : PySem.W.Frag} {G H H' : Hp} {σ : L2.St} {e : En}
theorem SlF.mono {F F' : Hp} {o : Option (Option V)} {s : Sl} (q1 : Same F F') (q : ∀ a u, s.isOwn = true → o = some (some (.ref a)) → H a = some u → H' a = some u) (h : SlF K F H o s) : SlF K F' H' o s := by
  cases s with
  | un => exact h
  | dat d => obtain ⟨v, e, h⟩ := h; exact ⟨v, e, h.mono q1⟩
  | own xs => obtain ⟨a, vs, e, h1, h2⟩ := h; exact ⟨a, vs, e, q _ _ rfl e h1, h2.mono q1⟩
  | dct kvs => obtain ⟨a, vs, e, h1, h2, h3⟩ := h; exact ⟨a, vs, e, q _ _ rfl e h1, h2, h3.mono q1⟩
theorem StOk.env (h : StOk K G H σ e) : EnvOk K H σ e := ⟨h.len, fun i s z => by
  have q := h.at_ i s z
  cases s with
  | un => exact q
  | dat d => obtain ⟨v, e, h⟩ := q; exact ⟨v, e, h.mono (hide_same _)⟩
  | own xs => obtain ⟨a, vs, e, h1, h2⟩ := q; exact ⟨a, vs, e, h1, h2.mono (hide_same _)⟩
  | dct kvs => obtain ⟨a, vs, e, h1, h2, h3⟩ := q; exact ⟨a, vs, e, h1, h2, h3.mono (hide_same _)⟩⟩
/-- what is owned is a list or a dict -/
theorem StOk.own_at (h : StOk K G H σ e) {a : Addr} (o : owns σ e a) : (∃ vs, H a = some (.lst vs)) ∨ (∃ ws, H a = some (.dT ws)) ∨ H a = none := by
  obtain ⟨i, s, h1, h2, h3⟩ := o
  have q := h.at_ i s h1
  cases s with
  | un => cases h2
  | dat d => cases h2
  | own xs => obtain ⟨b, vs, e, q1, _⟩ := q; rw [h3] at e; cases e; exact .inl ⟨vs, q1⟩
  | dct kvs => obtain ⟨b, ws, e, q1, _⟩ := q; rw [h3] at e; cases e; exact .inr (.inl ⟨ws, q1⟩)
theorem owns_lt (h : StOk K G H σ e) {a : Addr} (o : owns σ e a) : ∃ u, H a = some u := by
  rcases h.own_at o with ⟨_, q⟩ | ⟨_, q⟩ | q
  · exact ⟨_, q⟩
  · exact ⟨_, q⟩
  · obtain ⟨i, s, h1, h2, h3⟩ := o
    have q' := h.at_ i s h1
    cases s with
    | un => cases h2
    | dat d => cases h2
    | own xs => obtain ⟨b, vs, e, q1, _⟩ := q'; rw [h3] at e; cases e; exact ⟨_, q1⟩
    | dct kvs => obtain ⟨b, vs, e, q1, _⟩ := q'; rw [h3] at e; cases e; exact ⟨_, q1⟩
theorem hide_mono {O : Addr → Prop} (s : Same H H') : Same (hide O H) (hide O H') := fun b o q => by
  by_cases hb : O b
  · rw [hide_yes hb] at q; cases q
  · rw [hide_no hb] at q ⊢; exact s _ _ q
theorem hide_sub {O O' : Addr → Prop} (h : ∀ a, O' a → O a) : Same (hide O H) (hide O' H) := fun b o q => by
  by_cases hb : O b
  · rw [hide_yes hb] at q; cases q
  · rw [hide_no hb] at q; rw [hide_no fun z => hb (h b z)]; exact q
/-- the heap grew; all that is not owned may be asked to stay -/
theorem StOk.grow (h : StOk K G H σ e) (s : Same H H') : StOk K (hide (owns σ e) H') H' σ e ∧ Same G (hide (owns σ e) H') :=
  ⟨⟨h.len, Same.refl _, fun i sl z => (h.at_ i sl z).mono (hide_mono s) fun a u _ _ q => s a u q, h.dis⟩, h.g.trans (hide_mono s)⟩
theorem StOk.weak {G' : Hp} (h : StOk K G' H σ e) (s : Same G G') : StOk K G H σ e := ⟨h.len, s.trans h.g, h.at_, h.dis⟩
theorem StOk.keep (h : StOk K G H σ e) (s : Same H H') : StOk K G H' σ e := (h.grow s).1.weak (h.grow s).2
theorem StOk.same (h : StOk K G H σ e) : Same G H := h.g.trans (hide_same _)
theorem owns_none (h : noOwn e = true) (a : Addr) : ¬ owns σ e a := by
  rintro ⟨i, s, h1, h2, _⟩
  unfold noOwn at h
  rw [List.all_eq_true] at h
  have := h s (List.mem_of_getElem? h1)
  rw [h2] at this
  cases this
theorem StOk.lift (h : StOk K G H σ e) (s : Same H H') {d : D} {v : V} (hl : (d.lf || noOwn e) = true) (r : Rp K H' d v) : Rp K (hide (owns σ e) H') d v := by
  rw [Bool.or_eq_true] at hl
  rcases hl with hl | hl
  · refine Rp.hide (fun b hb => ?_) hl r
    rcases h.own_at hb with ⟨vs, q⟩ | ⟨ws, q⟩ | q
    · exact .inl ⟨vs, s _ _ q⟩
    · exact .inr (.inl ⟨ws, s _ _ q⟩)
    · obtain ⟨u, q'⟩ := owns_lt h hb
      rw [q] at q'; cases q'
  · refine r.mono fun b o q => ?_
    rw [hide_no (owns_none hl b)]
    exact q
theorem StOk.liftAll (h : StOk K G H σ e) (s : Same H H') : ∀ {ds : List D} {vs : List V}, (lfAll ds || noOwn e) = true → RpAll K H' ds vs → RpAll K (hide (owns σ e) H') ds vs
  | [], _, _, r => r
  | d :: ds, _, hl, r => by
    obtain ⟨v, vs, rfl, r1, r2⟩ := r
    rw [Bool.or_eq_true] at hl
    refine ⟨v, vs, rfl, h.lift s ?_ r1, h.liftAll s ?_ r2⟩
    · rw [Bool.or_eq_true]
      rcases hl with hl | hl
      · simp only [lfAll, Bool.and_eq_true] at hl; exact .inl hl.1
      · exact .inr hl
    · rw [Bool.or_eq_true]
      rcases hl with hl | hl
      · simp only [lfAll, Bool.and_eq_true] at hl; exact .inl hl.2
      · exact .inr hl
theorem owns_set {i : Nat} {x : Option V} {sl : Sl} (hl : σ.length = e.length) {a : Addr} (h : owns (σ.set i x) (e.set i sl) a) : owns σ e a ∨ (sl.isOwn = true ∧ x = some (.ref a) ∧ i < e.length) := by
  obtain ⟨j, s, h1, h2, h3⟩ := h
  by_cases hj : i = j
  · subst hj
    have hi : i < e.length := by have := (List.getElem?_eq_some_iff.mp h1).1; simpa using this
    rw [List.getElem?_set_self hi] at h1
    rw [List.getElem?_set_self (by omega)] at h3
    cases h1
    exact .inr ⟨h2, by injection h3, hi⟩
  · rw [List.getElem?_set_ne hj] at h1 h3
    exact .inl ⟨j, s, h1, h2, h3⟩
/-- a name is given data -/
theorem StOk.setD (h : StOk K G H σ e) (i : Nat) {d : D} {v : V} (hl : (d.lf || noOwn e) = true) (r : Rp K H d v) : StOk K G H (σ.set i (some v)) (e.set i (.dat d)) := by
  have sub : ∀ a, owns (σ.set i (some v)) (e.set i (.dat d)) a → owns σ e a := fun a q => by
    rcases owns_set h.len q with q | ⟨q, _⟩
    · exact q
    · cases q
  have hs : Same (hide (owns σ e) H) (hide (owns (σ.set i (some v)) (e.set i (.dat d))) H) := hide_sub sub
  refine ⟨by simp [h.len], h.g.trans hs, fun j s z => ?_, fun j k a s t hjk h1 h2 h3 h4 h5 => ?_⟩
  · by_cases hj : i = j
    · subst hj
      have hi : i < e.length := by have := (List.getElem?_eq_some_iff.mp z).1; simpa using this
      rw [List.getElem?_set_self hi] at z
      cases z
      rw [List.getElem?_set_self (by rw [h.len]; exact hi)]
      exact ⟨v, rfl, (h.lift (Same.refl H) hl r).mono hs⟩
    · rw [List.getElem?_set_ne hj] at z ⊢
      exact (h.at_ j s z).mono hs fun _ _ _ _ q => q
  · have nj : i ≠ j := fun q => by
      subst q
      have hi : i < e.length := by have := (List.getElem?_eq_some_iff.mp h1).1; simpa using this
      rw [List.getElem?_set_self hi] at h1
      cases h1; cases h2
    have nk : i ≠ k := fun q => by
      subst q
      have hi : i < e.length := by have := (List.getElem?_eq_some_iff.mp h3).1; simpa using this
      rw [List.getElem?_set_self hi] at h3
      cases h3; cases h4
    rw [List.getElem?_set_ne nj] at h1 h5
    rw [List.getElem?_set_ne nk] at h3 ⊢
    exact h.dis j k a s t hjk h1 h2 h3 h4 h5
/-- a name is given a new list (or dict), to own -/
theorem StOk.setO (h : StOk K G H σ e) (s : Same H H') (i : Nat) {sl : Sl} {a : Addr} (na : H a = none) (ha : ∃ u, H' a = some u) (ho : sl.isOwn = true)
    (hv : SlF K (hide (owns (σ.set i (some (.ref a))) (e.set i sl)) H') H' (some (some (.ref a))) sl) : StOk K G H' (σ.set i (some (.ref a))) (e.set i sl) := by
  have sub : ∀ b, owns (σ.set i (some (.ref a))) (e.set i sl) b → owns σ e b ∨ b = a := fun b q => by
    rcases owns_set h.len q with q | ⟨_, q, _⟩
    · exact .inl q
    · injection q with q; injection q with q; exact .inr q.symm
  have hs : Same (hide (owns σ e) H) (hide (owns (σ.set i (some (.ref a))) (e.set i sl)) H') := fun b o q => by
    by_cases hb : owns σ e b
    · rw [hide_yes hb] at q; cases q
    · rw [hide_no hb] at q
      rw [hide_no, s _ _ q]
      intro z
      rcases sub b z with z | z
      · exact hb z
      · subst z; rw [na] at q; cases q
  refine ⟨by simp [h.len], h.g.trans hs, fun j t z => ?_, fun j k b t u hjk h1 h2 h3 h4 h5 => ?_⟩
  · by_cases hj : i = j
    · subst hj
      have hi : i < e.length := by have := (List.getElem?_eq_some_iff.mp z).1; simpa using this
      rw [List.getElem?_set_self hi] at z
      cases z
      rw [List.getElem?_set_self (by rw [h.len]; exact hi)]
      exact hv
    · rw [List.getElem?_set_ne hj] at z ⊢
      exact (h.at_ j t z).mono hs fun _ _ _ _ q => s _ _ q
  · have old : ∀ (j : Nat) t, e[j]? = some t → t.isOwn = true → σ[j]? ≠ some (some (.ref a)) := fun j t q1 q2 q3 => by
      obtain ⟨u, q⟩ := owns_lt h ⟨j, t, q1, q2, q3⟩
      rw [na] at q; cases q
    by_cases hj : i = j
    · subst hj
      have hi : i < e.length := by have := (List.getElem?_eq_some_iff.mp h1).1; simpa using this
      rw [List.getElem?_set_self (by rw [h.len]; exact hi)] at h5
      injection h5 with h5; injection h5 with h5; injection h5 with h5
      subst h5
      rw [List.getElem?_set_ne hjk] at h3 ⊢
      exact old k u h3 h4
    · rw [List.getElem?_set_ne hj] at h1 h5
      by_cases hk : i = k
      · subst hk
        have hi : i < e.length := by have := (List.getElem?_eq_some_iff.mp h3).1; simpa using this
        rw [List.getElem?_set_self (by rw [h.len]; exact hi)]
        intro q
        injection q with q; injection q with q; injection q with q
        subst q
        exact old j t h1 h2 h5
      · rw [List.getElem?_set_ne hk] at h3 ⊢
        exact h.dis j k b t u hjk h1 h2 h3 h4 h5
/-- what a name owns is changed -/
theorem StOk.chg (h : StOk K G H σ e) (i : Nat) {sl sl' : Sl} {a : Addr} {o : HO} (hi : e[i]? = some sl) (ho : sl.isOwn = true) (ho' : sl'.isOwn = true) (ha : σ[i]? = some (some (.ref a)))
    (hv : SlF K (hide (owns σ e) H) (L2.upd H a o) (some (some (.ref a))) sl') : StOk K G (L2.upd H a o) σ (e.set i sl') := by
  have hil : i < e.length := (List.getElem?_eq_some_iff.mp hi).1
  have oa : owns σ e a := ⟨i, sl, hi, ho, ha⟩
  have eq : ∀ b, owns σ (e.set i sl') b ↔ owns σ e b := fun b => by
    constructor
    · rintro ⟨j, s, h1, h2, h3⟩
      by_cases hj : i = j
      · subst hj
        exact ⟨i, sl, hi, ho, h3⟩
      · rw [List.getElem?_set_ne hj] at h1
        exact ⟨j, s, h1, h2, h3⟩
    · rintro ⟨j, s, h1, h2, h3⟩
      by_cases hj : i = j
      · subst hj
        exact ⟨i, sl', List.getElem?_set_self hil, ho', h3⟩
      · exact ⟨j, s, by rw [List.getElem?_set_ne hj]; exact h1, h2, h3⟩
  have hs : Same (hide (owns σ e) H) (hide (owns σ (e.set i sl')) (L2.upd H a o)) := fun b u q => by
    by_cases hb : owns σ e b
    · rw [hide_yes hb] at q; cases q
    · rw [hide_no hb] at q
      rw [hide_no (fun z => hb ((eq b).mp z)), upd_ne (fun z => hb (by rw [z]; exact oa))]
      exact q
  refine ⟨by simp [h.len], h.g.trans hs, fun j s z => ?_, fun j k b s t hjk h1 h2 h3 h4 h5 => ?_⟩
  · by_cases hj : i = j
    · subst hj
      rw [List.getElem?_set_self hil] at z
      cases z
      rw [ha]
      exact hv.mono hs fun _ _ _ _ q => q
    · rw [List.getElem?_set_ne hj] at z
      refine (h.at_ j s z).mono hs fun b u q1 q2 q3 => ?_
      rw [upd_ne]
      · exact q3
      · rintro rfl
        exact h.dis i j b sl s hj hi ho z q1 ha q2
  · have own_of : ∀ (j : Nat) s, (e.set i sl')[j]? = some s → s.isOwn = true → ∃ t, e[j]? = some t ∧ t.isOwn = true := fun j s q1 q2 => by
      by_cases hj : i = j
      · subst hj; exact ⟨sl, hi, ho⟩
      · rw [List.getElem?_set_ne hj] at q1; exact ⟨s, q1, q2⟩
    obtain ⟨s', a1, a2⟩ := own_of j s h1 h2
    obtain ⟨t', b1, b2⟩ := own_of k t h3 h4
    exact h.dis j k b s' t' hjk a1 a2 b1 b2 h5
end

/-! ### what a statement does -/
inductive Fl where
  | nx (e : En)
  | rt (d : D)
  | rl (xs : List D)
def FinS (K : PySem.W.Frag) (W : Wx) (G : Hp) (Z : Ends) : Res Fl → Prop
  | .ok (.nx e) => ∀ σ' H', StOk K G H' σ' e → Z.nx σ' H'
  | .ok (.rt d) => ∀ v H', Same G H' → Rp K H' d v → Z.rt v H'
  | .ok (.rl xs) => ∀ a vs H', G a = none → Same G H' → H' a = some (.lst vs) → RpAll K (hide1 a H') xs vs → Z.rt (.ref a) H'
  | .exc c => ∀ σ' H', Same G H' → W c σ' H'
  | .bad => False
def tS (K : PySem.W.Frag) (W : Wx) (F : En → Res Fl) : TS := fun Z σ H => ∃ G e, StOk K G H σ e ∧ FinS K W G Z (F e)
section
variable {K : PySem.W.Frag} {W : Wx} {X : Cx}
theorem FinS.mono {G G' : Hp} {Z : Ends} (s : Same G G') : ∀ {r : Res Fl}, FinS K W G Z r → FinS K W G' Z r
  | .ok (.nx e), h => fun σ' H' q => h σ' H' (q.weak s)
  | .ok (.rt d), h => fun v H' q r => h v H' (s.trans q) r
  | .ok (.rl xs), h => fun a vs H' na q ea r => h a vs H' (s.free na) (s.trans q) ea r
  | .exc c, h => fun σ' H' q => h σ' H' (s.trans q)
  | .bad, h => h
def nilS : En → Res Fl := fun e => .ok (.nx e)
def seqS (F G : En → Res Fl) : En → Res Fl := fun e => rb (F e) fun fl => match fl with
  | .nx e1 => G e1
  | fl => .ok fl
variable {st : Stmt} {rest : List Stmt} {F F' : En → Res Fl}
theorem pds_nil : PSs X [] (tS X.K W nilS) := PSs.weak pss_nil fun Z σ H ⟨G, e, he, hf⟩ => hf σ H he
theorem pds_cons (h1 : PS X st (tS X.K W F)) (h2 : PSs X rest (tS X.K W F')) : PSs X (st :: rest) (tS X.K W (seqS F F')) := by
  refine PSs.weak (pss_cons h1 h2) ?_
  rintro Z σ H ⟨G, e, he, hf⟩
  refine ⟨G, e, he, ?_⟩
  unfold seqS at hf
  cases q : F e with
  | bad => rw [q] at hf; exact hf
  | exc c => rw [q] at hf; exact hf
  | ok fl =>
    rw [q, rb_ok] at hf
    cases fl with
    | nx e1 => exact fun σ' H' h => ⟨G, e1, h, hf⟩
    | rt d => exact hf
    | rl xs => exact hf
theorem pds_one (h1 : PS X st (tS X.K W F)) : PSs X [st] (tS X.K W F) := pss_one h1
/-- the value of an expression at a statement -/
theorem st_expr {G H : Hp} {σ : L2.St} {e : En} {f : En → Res D} {Z : Ends} {Q : VK} {k : D → Res Fl} (he : StOk K G H σ e) (hf : FinS K W G Z (rb (f e) k))
    (hq : ∀ d v H', f e = .ok d → Same H H' → Rp K H' d v → FinS K W G Z (k d) → Q v H') : tD K W f σ H Q := by
  refine ⟨e, he.env, ?_⟩
  cases h1 : f e with
  | bad => rw [h1] at hf; exact hf
  | exc c => rw [h1] at hf; exact fun H' s => hf σ H' (he.same.trans s)
  | ok d =>
    rw [h1, rb_ok] at hf
    exact fun v H' s r => hq d v H' h1 s r hf
theorem st_new {G H : Hp} {σ : L2.St} {e : En} {f : En → Res (List D)} {Z : Ends} {Q : VK} {k : List D → Res Fl} (he : StOk K G H σ e) (hf : FinS K W G Z (rb (f e) k))
    (hq : ∀ xs a vs H', f e = .ok xs → H a = none → Same H H' → H' a = some (.lst vs) → RpAll K (hide1 a H') xs vs → FinS K W G Z (k xs) → Q (.ref a) H') : tN K W f σ H Q := by
  refine ⟨e, he.env, ?_⟩
  cases h1 : f e with
  | bad => rw [h1] at hf; exact hf
  | exc c => rw [h1] at hf; exact fun H' s => hf σ H' (he.same.trans s)
  | ok xs =>
    rw [h1, rb_ok] at hf
    exact fun a vs H' na s ea r => hq xs a vs H' h1 na s ea r hf
/-! targets at statements -/
mutual
theorem gT_st {G H : Hp} : ∀ {t : Tg} {d : D} {v : V} {σ : L2.St} {e e' : En} {Q : L2.St → Hp → Prop}, StOk K G H σ e → Rp K H d v → setT t d e = .ok e' → (∀ σ', StOk K G H σ' e' → Q σ' H) → gT K t v σ H Q
  | .nm i, d, v, σ, e, e', Q, he, r, hz, q => by
    simp only [setT, setN] at hz
    split at hz
    · rename_i hl
      cases hz
      exact q _ (he.setD i hl r)
    · cases hz
  | .tp ts, d, v, σ, e, e', Q, he, r, hz, q => by
    cases d with
    | tup ds =>
      simp only [setT] at hz
      split at hz
      · rename_i hl
        obtain ⟨a, xs, rfl, h1, h2⟩ := r
        exact ⟨a, xs, rfl, h1, by rw [← h2.length, hl], gTs_st he h2 hl hz q⟩
      · cases hz
    | _ => simp [setT] at hz
theorem gTs_st {G H : Hp} : ∀ {ts : List Tg} {ds : List D} {xs : List V} {σ : L2.St} {e e' : En} {Q : L2.St → Hp → Prop}, StOk K G H σ e → RpAll K H ds xs → ts.length = ds.length → setTs ts ds e = .ok e' → (∀ σ', StOk K G H σ' e' → Q σ' H) → gTs K ts xs σ H Q
  | [], ds, xs, σ, e, e', Q, he, r, hl, hz, q => by
    have : ds = [] := List.eq_nil_of_length_eq_zero (by simpa using hl.symm)
    subst this
    cases r
    simp only [setTs] at hz
    cases hz
    exact ⟨rfl, q σ he⟩
  | t :: ts, [], xs, σ, e, e', Q, he, r, hl, hz, q => by simp at hl
  | t :: ts, d :: ds, xs, σ, e, e', Q, he, r, hl, hz, q => by
    obtain ⟨v, vr, rfl, r1, r2⟩ := r
    simp only [setTs] at hz
    cases h1 : setT t d e with
    | bad => rw [h1] at hz; cases hz
    | exc c => rw [h1] at hz; cases hz
    | ok e1 =>
      rw [h1, rb_ok] at hz
      exact ⟨v, vr, rfl, gT_st he r1 h1 fun σ1 he1 => gTs_st he1 r2 (by simpa using hl) hz q⟩
end
mutual
theorem setT_noexc : ∀ {t : Tg} {d : D} {e : En} {c : Nat}, setT t d e ≠ .exc c
  | .nm i, d, e, c => by simp only [setT, setN]; split <;> exact fun h => by cases h
  | .tp ts, d, e, c => by
    cases d with
    | tup ds =>
      simp only [setT]
      split
      · exact setTs_noexc
      · exact fun h => by cases h
    | _ => simp [setT]
theorem setTs_noexc : ∀ {ts : List Tg} {ds : List D} {e : En} {c : Nat}, setTs ts ds e ≠ .exc c
  | [], _, _, _ => by simp [setTs]
  | _ :: _, [], _, _ => by simp [setTs]
  | t :: ts, d :: ds, e, c => by
    simp only [setTs]
    cases h1 : setT t d e with
    | bad => simp
    | exc c' => exact absurd h1 setT_noexc
    | ok e1 => rw [rb_ok]; exact setTs_noexc
end

/-! ### the statements -/
variable {ex tg : Expr} {f : En → Res D} {fn : En → Res (List D)} {t : Tg} {pos : Pos} {tb : En → Res Bool}
def nxS (r : Res En) : Res Fl := rb r fun e => .ok (.nx e)
/-- target = data -/
def asgS (t : Tg) (f : En → Res D) : En → Res Fl := fun e => rb (f e) fun d => nxS (setT t d e)
theorem asg_D {t : Tg} : ∀ Z σ H, tS K W (asgS t f) Z σ H → tAsg (tD K W f) (gT K t) Z σ H := by
  rintro Z σ H ⟨G, e, he, hf⟩
  refine st_expr he hf fun d v H' _ s r hk => ?_
  cases h1 : setT t d e with
  | bad => rw [h1] at hk; exact hk.elim
  | exc c => unfold nxS at hk; rw [h1] at hk; exact absurd h1 (setT_noexc)
  | ok e1 =>
    unfold nxS at hk
    rw [h1, rb_ok] at hk
    exact gT_st (he.keep s) r h1 fun σ' q => hk σ' H' q
theorem pds_asg (he : PE X ex (tD X.K W f)) (hg : PG X tg (gT X.K t)) (hs : swapsWithSole [tg] ex pos.line X.env = pure false := by rfl) (hw : swappedStores [tg] ex X.env = pure none := by rfl)
    (h1 : (assignEach [tg] X.env).map (·.2) = [assign tg X.env] := by rfl) : PS X (.Assign [tg] ex pos) (tS X.K W (asgS t f)) := PS.weak (ps_asg he hg hs hw h1) asg_D
/-- name = new list, to own -/
def asgO (i : Nat) (f : En → Res (List D)) : En → Res Fl := fun e => rb (f e) fun xs => if lfAll xs || noOwn e then .ok (.nx (e.set i (.own xs))) else .bad
/-- name = new list, only to be read -/
def asgL (i : Nat) (f : En → Res (List D)) : En → Res Fl := fun e => rb (f e) fun xs => if lfAll xs || noOwn e then .ok (.nx (e.set i (.dat (.lst xs)))) else .bad
theorem new_lift {G H H' : Hp} {σ : L2.St} {e : En} (he : StOk K G H σ e) (s : Same H H') {a : Addr} {vs : List V} {xs : List D} (na : H a = none) (ea : H' a = some (.lst vs)) (r : RpAll K (hide1 a H') xs vs) (hl : (lfAll xs || noOwn e) = true) :
    RpAll K (hide (fun b => owns σ e b ∨ b = a) H') xs vs := by
  rw [Bool.or_eq_true] at hl
  rcases hl with hl | hl
  · refine RpAll.hide (fun b hb => ?_) hl (r.mono (hide_same _))
    rcases hb with hb | hb
    · obtain ⟨u, q⟩ := owns_lt he hb
      rcases he.own_at hb with ⟨ws, q'⟩ | ⟨ws, q'⟩ | q'
      · exact .inl ⟨ws, s _ _ q'⟩
      · exact .inr (.inl ⟨ws, s _ _ q'⟩)
      · rw [q'] at q; cases q
    · exact .inl ⟨vs, by rw [hb]; exact ea⟩
  · refine r.mono (hide_sub fun b hb => ?_)
    rcases hb with hb | hb
    · exact absurd hb (owns_none hl b)
    · exact hb
theorem asgO_D {i : Nat} : ∀ Z σ H, tS K W (asgO i fn) Z σ H → tAsg (tN K W fn) (gName i) Z σ H := by
  rintro Z σ H ⟨G, e, he, hf⟩
  refine st_new he hf fun xs a vs H' _ na s ea r hk => ?_
  split at hk
  · rename_i hl
    refine hk _ H' (he.setO s i na ⟨_, ea⟩ rfl ⟨a, vs, rfl, ea, ?_⟩)
    refine (new_lift he s na ea r hl).mono (hide_sub fun b hb => ?_)
    rcases owns_set he.len hb with q | ⟨_, q, _⟩
    · exact .inl q
    · injection q with q; injection q with q; exact .inr q.symm
  · exact hk.elim
theorem asgL_D {i : Nat} : ∀ Z σ H, tS K W (asgL i fn) Z σ H → tAsg (tN K W fn) (gName i) Z σ H := by
  rintro Z σ H ⟨G, e, he, hf⟩
  refine st_new he hf fun xs a vs H' _ na s ea r hk => ?_
  split at hk
  · rename_i hl
    have he' := he.keep s
    have noa : ¬ owns σ e a := fun q => by
      obtain ⟨u, q'⟩ := owns_lt he q
      rw [na] at q'; cases q'
    have sub : ∀ b, owns (σ.set i (some (.ref a))) (e.set i (.dat (.lst xs))) b → owns σ e b := fun b q => by
      rcases owns_set he.len q with q | ⟨q, _⟩
      · exact q
      · cases q
    have hs := hide_sub (H := H') sub
    have lift := new_lift he s na ea r hl
    refine hk _ H' ⟨by simp [he.len], he'.g.trans hs, fun j t z => ?_, fun j k b t u hjk h1 h2 h3 h4 h5 => ?_⟩
    · by_cases hj : i = j
      · subst hj
        have hi : i < e.length := by have := (List.getElem?_eq_some_iff.mp z).1; simpa using this
        rw [List.getElem?_set_self hi] at z
        cases z
        rw [List.getElem?_set_self (by rw [he.len]; exact hi)]
        refine ⟨.ref a, rfl, a, vs, rfl, SqL.of ?_, lift.mono (hide_sub fun b hb => .inl (sub b hb))⟩
        rw [hide_no fun q => noa (sub a q)]
        exact ea
      · rw [List.getElem?_set_ne hj] at z ⊢
        exact (he'.at_ j t z).mono hs fun _ _ _ _ q => q
    · have nj : i ≠ j := fun q => by
        subst q
        have hi : i < e.length := by have := (List.getElem?_eq_some_iff.mp h1).1; simpa using this
        rw [List.getElem?_set_self hi] at h1
        cases h1; cases h2
      have nk : i ≠ k := fun q => by
        subst q
        have hi : i < e.length := by have := (List.getElem?_eq_some_iff.mp h3).1; simpa using this
        rw [List.getElem?_set_self hi] at h3
        cases h3; cases h4
      rw [List.getElem?_set_ne nj] at h1 h5
      rw [List.getElem?_set_ne nk] at h3 ⊢
      exact he.dis j k b t u hjk h1 h2 h3 h4 h5
  · exact hk.elim
theorem pds_asgO (i : Nat) {x : Str} {px : Pos} (he : PE X ex (tN X.K W fn)) (hN : X.N.Nodup) (hi : X.N[i]? = some x := by rfl) (hx : Loc X.env.scope x := by first | exact .inl rfl | exact .inr rfl) (hf : X.fn x = true ∨ X.env.scope.names.lookup x = some .local := by first | exact .inl rfl | exact .inr rfl)
    (hs : swapsWithSole [.Name x px] ex pos.line X.env = pure false := by rfl) (hw : swappedStores [.Name x px] ex X.env = pure none := by rfl) : PS X (.Assign [.Name x px] ex pos) (tS X.K W (asgO i fn)) := PS.weak (ps_asg he (pg_name hN hi hx hf) hs hw) asgO_D
theorem pds_asgL (i : Nat) {x : Str} {px : Pos} (he : PE X ex (tN X.K W fn)) (hN : X.N.Nodup) (hi : X.N[i]? = some x := by rfl) (hx : Loc X.env.scope x := by first | exact .inl rfl | exact .inr rfl) (hf : X.fn x = true ∨ X.env.scope.names.lookup x = some .local := by first | exact .inl rfl | exact .inr rfl)
    (hs : swapsWithSole [.Name x px] ex pos.line X.env = pure false := by rfl) (hw : swappedStores [.Name x px] ex X.env = pure none := by rfl) : PS X (.Assign [.Name x px] ex pos) (tS X.K W (asgL i fn)) := PS.weak (ps_asg he (pg_name hN hi hx hf) hs hw) asgL_D
/-- name = [.. for ..] on one row, the name a local -/
theorem pds_lcO (i : Nat) {y : Str} {py : Pos} {elt iter : Expr} {ifs : List Expr} {scope : Scope} {own : List (Str × Nat)} {spos : Pos} {fi : En → Res (List D)} {tt : En → Res Bool} {te : En → Res D} (hc : X.calm = true) (hN : X.N.Nodup) (hi : PI X tg iter (tI X.K W fi)) (ok : BlkOk X.N X.env.scope scope own)
    (hg : ∀ (s : Shared) (H : Hp) (C : Addr) (cl : List (Str × Addr)) (fp : List Addr), PG (X.blk s H scope (compEnvC scope cl C X.env) fp) tg (gT X.K t)) (ht : ∀ (s : Shared) (H : Hp) (C : Addr) (cl : List (Str × Addr)) (fp : List Addr), PTs (X.blk s H scope (compEnvC scope cl C X.env) fp) ifs (tT X.K W0 tt))
    (he : ∀ (s : Shared) (H : Hp) (C : Addr) (cl : List (Str × Addr)) (fp : List Addr), PE (X.blk s H scope (compEnvC scope cl C X.env) fp) elt (tD X.K W0 te)) (hsl : ∀ i ∈ t.slots, i ∈ own.map (·.2) := by decide)
    (hy : X.N[i]? = some y := by rfl) (hyl : X.env.scope.names.lookup y = some .local := by rfl) (hsw : swapsWith (.ListComp elt [⟨tg, iter, ifs, 0⟩] scope pos) (some (.Name y py)) spos.line X.env = pure true := by exact sw_true rfl rfl rfl (by decide +kernel)) (hs : ∀ x, foldedSetIterable iter X.env x = pure x := by intro _; rfl) :
    PS X (.Assign [.Name y py] (.ListComp elt [⟨tg, iter, ifs, 0⟩] scope pos) spos) (tS X.K W (asgO i (compF (own.map (·.2)) fi t tt te))) := PS.weak (ps_setLc hc hN hy hyl hsw hi ok hg ht he hs) fun Z σ H q => tLc_D hsl σ H _ (asgO_D Z σ H q)
theorem pds_lcL (i : Nat) {y : Str} {py : Pos} {elt iter : Expr} {ifs : List Expr} {scope : Scope} {own : List (Str × Nat)} {spos : Pos} {fi : En → Res (List D)} {tt : En → Res Bool} {te : En → Res D} (hc : X.calm = true) (hN : X.N.Nodup) (hi : PI X tg iter (tI X.K W fi)) (ok : BlkOk X.N X.env.scope scope own)
    (hg : ∀ (s : Shared) (H : Hp) (C : Addr) (cl : List (Str × Addr)) (fp : List Addr), PG (X.blk s H scope (compEnvC scope cl C X.env) fp) tg (gT X.K t)) (ht : ∀ (s : Shared) (H : Hp) (C : Addr) (cl : List (Str × Addr)) (fp : List Addr), PTs (X.blk s H scope (compEnvC scope cl C X.env) fp) ifs (tT X.K W0 tt))
    (he : ∀ (s : Shared) (H : Hp) (C : Addr) (cl : List (Str × Addr)) (fp : List Addr), PE (X.blk s H scope (compEnvC scope cl C X.env) fp) elt (tD X.K W0 te)) (hsl : ∀ i ∈ t.slots, i ∈ own.map (·.2) := by decide)
    (hy : X.N[i]? = some y := by rfl) (hyl : X.env.scope.names.lookup y = some .local := by rfl) (hsw : swapsWith (.ListComp elt [⟨tg, iter, ifs, 0⟩] scope pos) (some (.Name y py)) spos.line X.env = pure true := by exact sw_true rfl rfl rfl (by decide +kernel)) (hs : ∀ x, foldedSetIterable iter X.env x = pure x := by intro _; rfl) :
    PS X (.Assign [.Name y py] (.ListComp elt [⟨tg, iter, ifs, 0⟩] scope pos) spos) (tS X.K W (asgL i (compF (own.map (·.2)) fi t tt te))) := PS.weak (ps_setLc hc hN hy hyl hsw hi ok hg ht he hs) fun Z σ H q => tLc_D hsl σ H _ (asgL_D Z σ H q)
/-- return -/
def retS (f : En → Res D) : En → Res Fl := fun e => rb (f e) fun d => .ok (.rt d)
def retN (f : En → Res (List D)) : En → Res Fl := fun e => rb (f e) fun xs => .ok (.rl xs)
theorem pds_ret (he : PE X ex (tD X.K W f)) : PS X (.Return (some ex) pos) (tS X.K W (retS f)) := PS.weak (ps_ret he) fun Z σ H ⟨G, e, he, hf⟩ => st_expr he hf fun d v H' _ s r hk => hk v H' (he.same.trans s) r
theorem pds_retN (he : PE X ex (tN X.K W fn)) : PS X (.Return (some ex) pos) (tS X.K W (retN fn)) := PS.weak (ps_ret he) fun Z σ H ⟨G, e, he, hf⟩ => st_new he hf fun xs a vs H' _ na s ea r hk => hk a vs H' (he.same.free na) (he.same.trans s) ea r
/-- return name, the name owns a list -/
def retO (i : Nat) : En → Res Fl := fun e => match e[i]? with
  | some (.own xs) => .ok (.rl xs)
  | _ => .bad
/-- if -/
def ifS (t : En → Res Bool) (F G : En → Res Fl) : En → Res Fl := fun e => rb (t e) fun b => if b then F e else G e
theorem pds_if {c : Expr} {a b : List Stmt} (hc : PT X c (tT X.K W tb)) (ha : PSs X a (tS X.K W F)) (hb : PSs X b (tS X.K W F')) : PS X (.If c a b pos) (tS X.K W (ifS tb F F')) := by
  refine PS.weak (ps_if hc ha hb) ?_
  rintro Z σ H ⟨G, e, he, hf⟩
  refine ⟨e, he.env, ?_⟩
  unfold ifS at hf
  cases h1 : tb e with
  | bad => rw [h1] at hf; exact hf
  | exc c => rw [h1] at hf; exact fun H' s => hf σ H' (he.same.trans s)
  | ok k =>
    rw [h1, rb_ok] at hf
    intro H1 s1
    cases k with
    | true => simp only [if_true] at hf ⊢; exact ⟨G, e, he.keep s1, hf⟩
    | false => simp only [Bool.false_eq_true, if_false] at hf ⊢; exact ⟨G, e, he.keep s1, hf⟩
end
end FM

set_option Elab.async false
set_option linter.all false
set_option maxRecDepth 100000
/-! FM5: for, while, stores into own lists; a def's body; calls. -/
namespace FM
open PySem PySem.Spec PyProof.Rows L2

/-! ### what a for walks -/
def FinF (K : PySem.W.Frag) (W : Wx) (G : Hp) (σ : L2.St) (e : En) (R : It → Hp → Prop) : Res (List D) → Prop
  | .ok items => ∀ J H' G', Same G G' → StOk K G' H' σ e → ItOk K J G' items → R J H'
  | .exc c => ∀ H', Same G H' → W c σ H'
  | .bad => False
def tIF (K : PySem.W.Frag) (W : Wx) (f : En → Res (List D)) : TI := fun σ H R => ∃ G e, StOk K G H σ e ∧ FinF K W G σ e R (f e)
def lfG (g : D → Res (List D)) (f : En → Res D) : En → Res (List D) := fun e => rb (f e) fun d => if d.lf || noOwn e then g d else .bad
def newG (f : En → Res (List D)) : En → Res (List D) := fun e => rb (f e) fun xs => if lfAll xs || noOwn e then .ok xs else .bad
def noG (f : En → Res (List D)) : En → Res (List D) := fun e => if noOwn e then f e else .bad
def varG (i : Nat) : En → Res (List D) := fun e => match e[i]? with
  | some (.dat (.lst xs)) => .ok xs
  | _ => .bad
section
variable {K : PySem.W.Frag} {X : Cx} {W : Wx} {l tg : Expr} {f : En → Res D} {fn fs fi : En → Res (List D)}
theorem pif_tup (hl : PE X l (tD X.K W f)) : PI X tg l (tIF X.K W (lfG asTup f)) := by
  refine PI.weak (pi_tup hl) ?_
  rintro σ H R ⟨G, e, he, hf⟩
  refine ⟨e, he.env, ?_⟩
  unfold lfG at hf
  cases h1 : f e with
  | bad => rw [h1] at hf; exact hf
  | exc c => rw [h1] at hf; exact fun H' s => hf H' (he.same.trans s)
  | ok d =>
    rw [h1, rb_ok] at hf
    intro v H1 s1 r1
    split at hf
    · rename_i hl
      have r2 := he.lift s1 hl r1
      cases d with
      | tup xs =>
        obtain ⟨a, vs, rfl, h2, h3⟩ := r2
        exact ⟨a, rfl, ⟨vs, Same.sqT (hide_same _) h2⟩, hf _ H1 _ (he.grow s1).2 (he.grow s1).1 (it_tup h2 h3)⟩
      | _ => exact (hf : False).elim
    · exact hf.elim
theorem pif_str (hl : PE X l (tD X.K W f)) : PI X tg l (tIF X.K W (itF asStr f)) := by
  refine PI.weak (pi_str hl) ?_
  rintro σ H R ⟨G, e, he, hf⟩
  refine ⟨e, he.env, ?_⟩
  unfold itF at hf
  cases h1 : f e with
  | bad => rw [h1] at hf; exact hf
  | exc c => rw [h1] at hf; exact fun H' s => hf H' (he.same.trans s)
  | ok d =>
    rw [h1, rb_ok] at hf
    intro v H1 s1 r1
    cases d with
    | str l =>
      cases r1
      exact ⟨S l, rfl, hf _ H1 _ (he.grow s1).2 (he.grow s1).1 (it_str l)⟩
    | _ => exact (hf : False).elim
theorem pif_new (hl : PE X l (tN X.K W fn)) : PI X tg l (tIF X.K W (newG fn)) := by
  refine PI.weak (pi_list hl) ?_
  rintro σ H R ⟨G, e, he, hf⟩
  refine ⟨e, he.env, ?_⟩
  unfold newG at hf
  cases h1 : fn e with
  | bad => rw [h1] at hf; exact hf
  | exc c => rw [h1] at hf; exact fun H' s => hf H' (he.same.trans s)
  | ok xs =>
    rw [h1, rb_ok] at hf
    intro a vs H1 na s1 ea r1
    split at hf
    · rename_i hl
      have noa : ¬ owns σ e a := fun q => by
        obtain ⟨u, q'⟩ := owns_lt he q
        rw [na] at q'; cases q'
      have r2 := (new_lift he s1 na ea r1 hl).mono (hide_sub (O' := owns σ e) fun b hb => .inl hb)
      refine ⟨a, rfl, ⟨vs, SqL.of ea⟩, hf _ H1 _ (he.grow s1).2 (he.grow s1).1 (it_list (SqL.of ?_) r2)⟩
      rw [hide_no noa]
      exact ea
    · exact hf.elim
/-- a name that holds a list which is only read -/
theorem pif_var (i : Nat) {x : Str} {px : Pos} (hN : X.N[i]? = some x := by rfl) (hv : Vis X.env.scope x := by first | exact Or.inl rfl | exact Or.inr (Or.inl rfl) | exact Or.inr (Or.inr rfl)) (hd : (x == ("__debug__" : Str)) = false := by decide)
    (hcd : (x == ("__classdict__" : Str)) = false := by decide) : PI X tg (.Name x px) (tIF X.K W (varG i)) := by
  refine PI.weak (pi_list (pe_var hN hv hd hcd)) ?_
  rintro σ H R ⟨G, e, he, hf⟩
  unfold varG at hf
  split at hf
  · rename_i xs hx
    obtain ⟨v, e1, a, vs, rfl, h2, h3⟩ := he.at_ i _ hx
    exact ⟨.ref a, e1, a, rfl, ⟨vs, (hide_same _).seq h2⟩, hf _ H _ (he.grow (Same.refl H)).2 (he.grow (Same.refl H)).1 (it_list h2 h3)⟩
  · exact hf.elim
/-- where nothing is owned -/
theorem pif_no (h : PI X tg l (tI X.K W fi)) : PI X tg l (tIF X.K W (noG fi)) := by
  refine PI.weak h ?_
  rintro σ H R ⟨G, e, he, hf⟩
  refine ⟨e, he.env, ?_⟩
  unfold noG at hf
  split at hf
  · rename_i hn
    cases h1 : fi e with
    | bad => rw [h1] at hf; exact hf
    | exc c => rw [h1] at hf; exact fun H' s => hf H' (he.same.trans s)
    | ok items =>
      rw [h1] at hf
      intro J H' s hJ
      have e1 : Same H' (hide (owns σ e) H') := fun b o q => by rw [hide_no (owns_none hn b)]; exact q
      exact hf J H' _ (he.grow s).2 (he.grow s).1 (hJ.mono e1)
  · exact hf.elim
theorem pif_rng1 {a : Expr} {p pos : Pos} (hg : Gl X "range") (hm : X.mg "range" = none) (ha : PA X [a] (tDs X.K W fs)) (hs : starEach [a] X.env = [(false, eval a X.env)] := by rfl) : PI X tg (.Call (.Name "range" p) [a] [] pos) (tIF X.K W (itF asRng1 fs)) := by
  refine PI.weak (pi_range1 hg hm ha hs) ?_
  rintro σ H R ⟨G, e, he, hf⟩
  refine ⟨e, he.env, ?_⟩
  unfold itF at hf
  cases h1 : fs e with
  | bad => rw [h1] at hf; exact hf
  | exc c => rw [h1] at hf; exact fun H' s => hf H' (he.same.trans s)
  | ok ds =>
    rw [h1, rb_ok] at hf
    intro vs H1 s1 r1
    unfold asRng1 at hf
    split at hf
    · rename_i j
      obtain ⟨v, r, rfl, rv, rr⟩ := r1
      cases rv; cases rr
      split at hf
      · rename_i hj
        exact ⟨j, rfl, by omega, by omega, hf _ H1 _ (he.grow s1).2 (he.grow s1).1 (it_rng 0 _)⟩
      · exact hf.elim
    · exact (hf : False).elim
theorem pif_rng2 {a b : Expr} {p pos : Pos} (hg : Gl X "range") (hm : X.mg "range" = none) (ha : PA X [a, b] (tDs X.K W fs)) (hs : starEach [a, b] X.env = [(false, eval a X.env), (false, eval b X.env)] := by rfl) (hs2 : starEach [b] X.env = [(false, eval b X.env)] := by rfl) :
    PI X tg (.Call (.Name "range" p) [a, b] [] pos) (tIF X.K W (itF asRng2 fs)) := by
  refine PI.weak (pi_range2 hg hm ha hs hs2) ?_
  rintro σ H R ⟨G, e, he, hf⟩
  refine ⟨e, he.env, ?_⟩
  unfold itF at hf
  cases h1 : fs e with
  | bad => rw [h1] at hf; exact hf
  | exc c => rw [h1] at hf; exact fun H' s => hf H' (he.same.trans s)
  | ok ds =>
    rw [h1, rb_ok] at hf
    intro vs H1 s1 r1
    unfold asRng2 at hf
    split at hf
    · rename_i i j
      obtain ⟨v, r, rfl, rv, v2, r2, rfl, rv2, rr⟩ := r1
      cases rv; cases rv2; cases rr
      split at hf
      · rename_i hj
        exact ⟨i, j, rfl, ⟨by omega, by omega, by omega, by omega⟩, hf _ H1 _ (he.grow s1).2 (he.grow s1).1 (it_rng i _)⟩
      · exact hf.elim
    · exact (hf : False).elim

/-! ### for -/
def forF (t : Tg) (B : En → Res Fl) : List D → En → Res Fl
  | [], e => .ok (.nx e)
  | d :: r, e => rb (setT t d e) fun e1 => rb (B e1) fun fl => match fl with
    | .nx e2 => forF t B r e2
    | fl => .ok fl
def forS (fi : En → Res (List D)) (t : Tg) (B : En → Res Fl) : En → Res Fl := fun e => rb (fi e) fun items => forF t B items e
variable {t : Tg} {B : En → Res Fl} {pos : Pos}
theorem for_D : ∀ Z σ H, tS K W (forS fi t B) Z σ H → tFor (tIF K W fi) (gT K t) (tS K W B) Z σ H := by
  rintro Z σ H ⟨G, e, he, hf⟩
  refine ⟨G, e, he, ?_⟩
  unfold forS at hf
  cases h1 : fi e with
  | bad => rw [h1] at hf; exact hf
  | exc c => rw [h1] at hf; exact fun H' s => hf σ H' s
  | ok items =>
    rw [h1, rb_ok] at hf
    intro J H1 G1 sG he1 hJ
    let P : Nat → L2.St → Hp → Prop := fun i σ' H' => ∃ e', StOk K G1 H' σ' e' ∧ FinS K W G1 Z (forF t B (items.drop i) e')
    refine ⟨fun i m σ' H' => m = items.length - i ∧ i ≤ items.length ∧ P i σ' H', ⟨items.length, by simp, Nat.zero_le _, e, he1, by simpa using hf.mono sG⟩, ?_⟩
    rintro i m σ' H' ⟨rfl, hi, e', he', hf'⟩
    obtain ⟨hgo, hstop⟩ := hJ H' he'.same
    by_cases hlt : i < items.length
    · right
      have hd : items[i]? = some items[i] := List.getElem?_eq_getElem hlt
      obtain ⟨g1, g2⟩ := hgo i _ hd
      rw [List.drop_eq_getElem_cons hlt] at hf'
      simp only [forF] at hf'
      refine ⟨g1, P (i + 1), fun σ2 H2 p => ⟨items.length - (i + 1), by omega, rfl, hlt, p⟩, fun x H2 hy => ?_⟩
      obtain ⟨s2, rx⟩ := g2 x H2 hy
      cases h2 : setT t items[i] e' with
      | bad => rw [h2] at hf'; exact hf'.elim
      | exc c => exact absurd h2 setT_noexc
      | ok e1 =>
        rw [h2, rb_ok] at hf'
        refine gT_st (he'.keep s2) rx h2 fun σ3 he3 => ⟨G1, e1, he3, ?_⟩
        cases h3 : B e1 with
        | bad => rw [h3] at hf'; exact hf'
        | exc c => rw [h3] at hf'; exact hf'
        | ok fl =>
          rw [h3, rb_ok] at hf'
          cases fl with
          | nx e2 => exact fun σ4 H4 h4 => ⟨e2, h4, hf'⟩
          | rt d => exact hf'
          | rl xs => exact hf'
    · left
      have e2 : i = items.length := by omega
      subst e2
      rw [List.drop_length] at hf'
      simp only [forF] at hf'
      exact ⟨hstop _ (Nat.le_refl _), hf' σ' H' he'⟩
theorem pds_for {iter : Expr} {body : List Stmt} (hp : PassesOwn (model X.prog X.w) X.A X.env X.xe) (hc : X.calm = true) (hi : PI X tg iter (tIF X.K W fi)) (hg : PG X tg (gT X.K t)) (hb : PSs X body (tS X.K W B))
    (hs : ∀ x, foldedSetIterable iter X.env x = pure x := by intro _; rfl) : PS X (.For tg iter body [] pos) (tS X.K W (forS fi t B)) := PS.weak (ps_for hp hc hi hg hb hs) for_D

/-! ### while -/
def whileN (t : En → Res Bool) (B : En → Res Fl) : Nat → En → Option (Res Fl)
  | 0, _ => none
  | n + 1, e => match t e with
    | .ok false => some (.ok (.nx e))
    | .ok true => (match B e with
      | .ok (.nx e1) => whileN t B n e1
      | r => some r)
    | .exc c => some (.exc c)
    | .bad => some .bad
theorem whileN_det {t : En → Res Bool} {B : En → Res Fl} : ∀ {n m : Nat} {e : En} {r r' : Res Fl}, whileN t B n e = some r → whileN t B m e = some r' → r = r'
  | 0, _, _, _, _, h, _ => by simp [whileN] at h
  | _, 0, _, _, _, _, h => by simp [whileN] at h
  | n + 1, m + 1, e, r, r', h, h' => by
    simp only [whileN] at h h'
    cases h1 : t e with
    | bad => rw [h1] at h h'; cases h; cases h'; rfl
    | exc c => rw [h1] at h h'; cases h; cases h'; rfl
    | ok b =>
      rw [h1] at h h'
      cases b with
      | false => cases h; cases h'; rfl
      | true =>
        simp only at h h'
        cases h2 : B e with
        | bad => rw [h2] at h h'; cases h; cases h'; rfl
        | exc c => rw [h2] at h h'; cases h; cases h'; rfl
        | ok fl =>
          rw [h2] at h h'
          cases fl with
          | nx e1 => exact whileN_det h h'
          | rt d => cases h; cases h'; rfl
          | rl d => cases h; cases h'; rfl
noncomputable def whileS (t : En → Res Bool) (B : En → Res Fl) : En → Res Fl := fun e => open Classical in
  if h : ∃ r n, whileN t B n e = some r then Classical.choose h else .bad
theorem whileS_of {t : En → Res Bool} {B : En → Res Fl} {n : Nat} {e : En} {r : Res Fl} (h : whileN t B n e = some r) : whileS t B e = r := by
  have hx : ∃ r n, whileN t B n e = some r := ⟨r, n, h⟩
  unfold whileS
  rw [dif_pos hx]
  obtain ⟨m, hm⟩ := Classical.choose_spec hx
  exact whileN_det hm h
theorem whileS_ex {t : En → Res Bool} {B : En → Res Fl} {e : En} (h : whileS t B e ≠ .bad) : ∃ n, whileN t B n e = some (whileS t B e) := by
  by_cases hx : ∃ r n, whileN t B n e = some r
  · obtain ⟨r, n, hn⟩ := hx
    exact ⟨n, by rw [whileS_of hn]; exact hn⟩
  · unfold whileS at h
    rw [dif_neg hx] at h
    exact absurd rfl h
theorem whileS_false {t : En → Res Bool} {B : En → Res Fl} {e : En} (h : t e = .ok false) : whileS t B e = .ok (.nx e) := whileS_of (n := 1) (by simp [whileN, h])
theorem whileS_true {t : En → Res Bool} {B : En → Res Fl} {e e1 : En} (h : t e = .ok true) (h1 : B e = .ok (.nx e1)) : whileS t B e = whileS t B e1 := by
  by_cases hx : ∃ r n, whileN t B n e1 = some r
  · obtain ⟨r, n, hn⟩ := hx
    rw [whileS_of hn]
    exact whileS_of (n := n + 1) (by simp [whileN, h, h1, hn])
  · have hy : ¬ ∃ r n, whileN t B n e = some r := by
      rintro ⟨r, n, hn⟩
      cases n with
      | zero => simp [whileN] at hn
      | succ n =>
        simp only [whileN, h, h1] at hn
        exact hx ⟨r, n, hn⟩
    unfold whileS
    rw [dif_neg hx, dif_neg hy]
theorem while_D {tb : En → Res Bool} : ∀ Z σ H, tS K W (whileS tb B) Z σ H → tWhile (tT K W tb) (tS K W B) Z σ H := by
  rintro Z σ H ⟨G, e, he, hf⟩
  have nb : whileS tb B e ≠ .bad := fun q => by rw [q] at hf; exact hf
  obtain ⟨n, hn⟩ := whileS_ex nb
  refine ⟨fun m σ' H' => ∃ e' r, StOk K G H' σ' e' ∧ whileN tb B m e' = some r ∧ FinS K W G Z r, ⟨n, e, _, he, hn, hf⟩, ?_⟩
  rintro m σ' H' ⟨e', r, he', hr, hf'⟩
  cases m with
  | zero => simp [whileN] at hr
  | succ m =>
    refine ⟨e', he'.env, ?_⟩
    simp only [whileN] at hr
    cases h1 : tb e' with
    | bad => rw [h1] at hr; cases hr; exact hf'
    | exc c => rw [h1] at hr; cases hr; exact fun H2 s => hf' σ' H2 (he'.same.trans s)
    | ok b =>
      rw [h1] at hr
      intro H2 s2
      cases b with
      | false =>
        cases hr
        simp only [Bool.false_eq_true, if_false]
        exact hf' σ' H2 (he'.keep s2)
      | true =>
        simp only [if_true] at hr ⊢
        refine ⟨fun σ3 H3 => ∃ e3 r3, StOk K G H3 σ3 e3 ∧ whileN tb B m e3 = some r3 ∧ FinS K W G Z r3, fun σ3 H3 q => ⟨m, Nat.lt_succ_self m, q⟩, G, e', he'.keep s2, ?_⟩
        cases h2 : B e' with
        | bad => rw [h2] at hr; cases hr; exact hf'
        | exc c => rw [h2] at hr; cases hr; exact hf'
        | ok fl =>
          rw [h2] at hr
          cases fl with
          | nx e1 => exact fun σ4 H4 h4 => ⟨e1, r, h4, hr, hf'⟩
          | rt d => cases hr; exact hf'
          | rl d => cases hr; exact hf'
theorem pds_while {c : Expr} {body : List Stmt} {tb : En → Res Bool} (hp : PassesOwn (model X.prog X.w) X.A X.env X.xe) (hc : PT X c (tT X.K W tb)) (hb : PSs X body (tS X.K W B)) : PS X (.While c body [] pos) (tS X.K W (whileS tb B)) :=
  PS.weak (ps_while hp hc hb) while_D

/-! ### a def -/
def initE (m : Nat) (ds : List D) : En := ds.map .dat ++ List.replicate (m - ds.length) .un
def runD (m : Nat) (B : En → Res Fl) (ds : List D) : Res D := match B (initE m ds) with
  | .ok (.rt d) => .ok d
  | .ok (.nx _) => .ok .non
  | _ => .bad
def runL (m : Nat) (B : En → Res Fl) (ds : List D) : Res (List D) := match B (initE m ds) with
  | .ok (.rl xs) => .ok xs
  | _ => .bad
theorem start_ok {H : Hp} {N : List Str} {ds : List D} {vs : List V} (r : RpAll K H ds vs) : StOk K H H (start N vs) (initE N.length ds) := by
  have no : noOwn (initE N.length ds) = true := by
    unfold noOwn initE
    rw [List.all_append, Bool.and_eq_true]
    constructor
    · simp [List.all_map, Sl.isOwn]
    · rw [List.all_eq_true]
      intro x hx
      rw [List.eq_of_mem_replicate hx]
      rfl
  have e1 : Same H (hide (owns (start N vs) (initE N.length ds)) H) := fun b o q => by rw [hide_no (owns_none no b)]; exact q
  have l := r.length
  refine ⟨by simp [L2.start, initE, l], e1, fun i s z => ?_, fun i j a s t hij h1 h2 => ?_⟩
  · unfold initE at z
    by_cases hi : i < ds.length
    · rw [List.getElem?_append_left (by simpa using hi), List.getElem?_map, List.getElem?_eq_getElem hi] at z
      cases z
      obtain ⟨v, h1, h2⟩ := r.get (List.getElem?_eq_getElem hi)
      refine ⟨v, ?_, h2.mono e1⟩
      unfold L2.start
      rw [List.getElem?_append_left (by simp; omega), List.getElem?_map, h1]
      rfl
    · rw [List.getElem?_append_right (by simpa using hi), List.getElem?_replicate] at z
      split at z
      · cases z; trivial
      · cases z
  · exfalso
    unfold noOwn at no
    rw [List.all_eq_true] at no
    have := no s (List.mem_of_getElem? h1)
    rw [h2] at this
    cases this
theorem fnD_body {C : Cls4} {n : Nat} {N : List Str} {H : Hp} {vs : List V} {Q : VK} {E : XK} (h : spD K C n (runD N.length B) vs H Q E) : tS K W0 B { nx := fun _ H' => Q .non H', rt := Q } (start N vs) H := by
  obtain ⟨ds, hn, r, hf⟩ := h
  refine ⟨H, _, start_ok r, ?_⟩
  unfold runD at hf
  cases h1 : B (initE N.length ds) with
  | bad => rw [h1] at hf; exact hf
  | exc c => rw [h1] at hf; exact hf.elim
  | ok fl =>
    rw [h1] at hf
    cases fl with
    | nx e => exact fun σ' H' he => hf .non H' he.same rfl
    | rt d => exact hf
    | rl xs => exact hf.elim
theorem fnL_body {C : Cls4} {n : Nat} {N : List Str} {H : Hp} {vs : List V} {Q : VK} {E : XK} (h : spL K C n (runL N.length B) vs H Q E) : tS K W0 B { nx := fun _ H' => Q .non H', rt := Q } (start N vs) H := by
  obtain ⟨ds, hn, r, hf⟩ := h
  refine ⟨H, _, start_ok r, ?_⟩
  unfold runL at hf
  cases h1 : B (initE N.length ds) with
  | bad => rw [h1] at hf; exact hf
  | exc c => rw [h1] at hf; exact hf.elim
  | ok fl =>
    rw [h1] at hf
    cases fl with
    | nx e => exact hf.elim
    | rt d => exact hf.elim
    | rl xs => exact hf
end
section
variable {P : Program} {w : World} {K : PySem.W.Frag} {mg : Str → Option Value} {base : Heap}
/-- a def that is known: where it stands, its promise -/
def FnB (P : Program) (w : World) (K : PySem.W.Frag) (mg : Str → Option Value) (base : Heap) (k : Nat) (x : Str) (ps : List Str) (sp : Sp) : Prop :=
  ∃ f fd, FnOk P w K mg base CX0 k f fd ps sp ∧ mg x = some (.ref f) ∧ PySem.W.keepIn K (.ref f) = true ∧ Binds K fd ps []
/-- the law itself -/
theorem fn_law {x qual : Str} {st : Stmt} {f : Addr} {fd : FuncData} {N ps : List Str} {k : Nat} {B : En → Res Fl} (C : Cls4) (F : Fun K x qual st f fd) (S : FnScope N ps (defScope st))
    (hbody : ∀ (cdv : Value) (A : Around) (outer : List Env) (s : Shared) (H : Hp) (E : XK), Room k (A.deeper (envOfC qual (defScope st) s.heap.objs.size f cdv)) →
      PSs (cxOf CX0 P w K mg base N qual (defScope st) f cdv A outer s H E).nox (defBody st) (tS K W0 B))
    {n m : Nat} {g : List D → Res D} (hg : g = runD m B) (hn : ps.length = n) (hN : N.length = m) : FnOk P w K mg base CX0 (k + 1) f fd ps (spD K C n g) := by
  subst hg hn hN
  exact F.ok S spD.len fun cdv A outer s H vs Q E hr h => ⟨_, hbody cdv A outer s H E hr, fnD_body h⟩
/-- a def whose body is read by B, that gives data -/
theorem fn_data {x qual : Str} {st : Stmt} {f : Addr} {fd : FuncData} {N ps : List Str} {k : Nat} {B : En → Res Fl} (C : Cls4) (F : Fun K x qual st f fd) (S : FnScope N ps (defScope st))
    (hbody : ∀ (cdv : Value) (A : Around) (outer : List Env) (s : Shared) (H : Hp) (E : XK), Room k (A.deeper (envOfC qual (defScope st) s.heap.objs.size f cdv)) →
      PSs (cxOf CX0 P w K mg base N qual (defScope st) f cdv A outer s H E).nox (defBody st) (tS K W0 B))
    (hm : mg x = some (.ref f)) (hb : Binds K fd ps []) {n m : Nat} {g : List D → Res D} (hg : g = runD m B) (hn : ps.length = n) (hN : N.length = m) : FnB P w K mg base (k + 1) x ps (spD K C n g) := by
  subst hg hn hN
  exact ⟨f, fd, F.ok S spD.len fun cdv A outer s H vs Q E hr h => ⟨_, hbody cdv A outer s H E hr, fnD_body h⟩, hm, F.kp, hb⟩
theorem fn_list {x qual : Str} {st : Stmt} {f : Addr} {fd : FuncData} {N ps : List Str} {k : Nat} {B : En → Res Fl} (C : Cls4) (F : Fun K x qual st f fd) (S : FnScope N ps (defScope st))
    (hbody : ∀ (cdv : Value) (A : Around) (outer : List Env) (s : Shared) (H : Hp) (E : XK), Room k (A.deeper (envOfC qual (defScope st) s.heap.objs.size f cdv)) →
      PSs (cxOf CX0 P w K mg base N qual (defScope st) f cdv A outer s H E).nox (defBody st) (tS K W0 B))
    (hm : mg x = some (.ref f)) (hb : Binds K fd ps []) {n m : Nat} {g : List D → Res (List D)} (hg : g = runL m B) (hn : ps.length = n) (hN : N.length = m) : FnB P w K mg base (k + 1) x ps (spL K C n g) := by
  subst hg hn hN
  exact ⟨f, fd, F.ok S spL.len fun cdv A outer s H vs Q E hr h => ⟨_, hbody cdv A outer s H E hr, fnL_body h⟩, hm, F.kp, hb⟩
end
section
variable {X : Cx} {W : Wx} {k n : Nat} {x : Str} {ps : List Str} {C : Cls4} {p pos : Pos} {e : Expr} {es : List Expr} {fa : En → Res (List D)} {g : List D → Res D} {gl : List D → Res (List D)}
theorem FnB.mono {P : Program} {w : World} {K : PySem.W.Frag} {mg : Str → Option Value} {base : Heap} {j : Nat} {sp : Sp} (h : FnB P w K mg base j x ps sp) (hj : j ≤ k) : FnB P w K mg base k x ps sp :=
  let ⟨f, fd, h1, h2⟩ := h; ⟨f, fd, h1.mono hj, h2⟩
theorem pd_fn (F : FnB X.prog X.w X.K X.mg X.base k x ps (spD X.K C n g)) (hr : Room k X.A) (ha : PA X (e :: es) (tDs X.K W fa)) (hg : Gl X x := by rfl) (hdb : (x == ("__debug__" : Str)) = false := by decide)
    (he : starEach (e :: es) X.env = (false, eval e X.env) :: starEach es X.env := by rfl) (hpl : (backTo pos (starEach es X.env)).any (·.1) = false := by rfl) : PE X (.Call (.Name x p) (e :: es) [] pos) (tD X.K W (fnF n g fa)) := by
  obtain ⟨f, fd, h1, h2, h3, h4⟩ := F
  exact PE.weak (pe_call h1 hr hg h2 h3 h4 .nil pass0 ha hdb he hpl) tD_fn
theorem pd_fn0 (F : FnB X.prog X.w X.K X.mg X.base k x ps (spD X.K C 0 g)) (hr : Room k X.A) (hg : Gl X x := by rfl) (hdb : (x == ("__debug__" : Str)) = false := by decide) : PE X (.Call (.Name x p) [] [] pos) (tD X.K W (fnF 0 g nilF)) := by
  obtain ⟨f, fd, h1, h2, h3, h4⟩ := F
  refine PE.weak (pe_call0 h1 hr hg h2 h3 h4 .nil pass0 hdb) fun σ H Q q => ?_
  obtain ⟨e, he, hf⟩ := tD_fn (C := C) σ H Q q
  exact hf [] H (Same.refl H) rfl
theorem pn_fn (F : FnB X.prog X.w X.K X.mg X.base k x ps (spL X.K C n gl)) (hr : Room k X.A) (ha : PA X (e :: es) (tDs X.K W fa)) (hg : Gl X x := by rfl) (hdb : (x == ("__debug__" : Str)) = false := by decide)
    (he : starEach (e :: es) X.env = (false, eval e X.env) :: starEach es X.env := by rfl) (hpl : (backTo pos (starEach es X.env)).any (·.1) = false := by rfl) : PE X (.Call (.Name x p) (e :: es) [] pos) (tN X.K W (fnF n gl fa)) := by
  obtain ⟨f, fd, h1, h2, h3, h4⟩ := F
  exact PE.weak (pe_call h1 hr hg h2 h3 h4 .nil pass0 ha hdb he hpl) tN_fn
end
end FM

set_option Elab.async false
set_option linter.all false
set_option maxRecDepth 100000
/-! FM6: built-ins on plain data: len, isinstance, all, tuple, list, join, lower, upper. -/
namespace FM
open PySem PySem.Spec PyProof.Rows L2
section
variable {X : Cx} {W : Wx} {e a : Expr} {es : List Expr} {fa : En → Res (List D)} {f fb : En → Res D} {p pos apos : Pos}
/-- a built-in function by its name -/
theorem pd_callB {id : String} {x : Str} {r : List V → Hp → VK → Prop} {g : List D → Option D} (hc : CallR X (.builtin id) r) (hd : CallD X.K r g) (hm : X.mg x = none) (hv : bootBuiltins x = some (.builtin id)) (ha : PA X (e :: es) (tDs X.K W fa)) (hg : Gl X x := by rfl)
    (hn : x ≠ "__name__" := by decide) (hdb : (x == ("__debug__" : Str)) = false := by decide) (he : starEach (e :: es) X.env = (false, eval e X.env) :: starEach es X.env := by rfl) (hpl : (backTo pos (starEach es X.env)).any (·.1) = false := by rfl) :
    PE X (.Call (.Name x p) (e :: es) [] pos) (tD X.K W (callF g fa)) := PE.weak (pe_callB hc hg hm hv ha hn hdb he hpl) (tD_call hd)
theorem pd_callTy {T : String} {x : Str} {r : List V → Hp → VK → Prop} {g : List D → Option D} (hc : CallR X (.type T) r) (hd : CallD X.K r g) (hm : X.mg x = none) (hv : bootBuiltins x = some (.type T)) (ha : PA X (e :: es) (tDs X.K W fa)) (hg : Gl X x := by rfl)
    (hn : x ≠ "__name__" := by decide) (hdb : (x == ("__debug__" : Str)) = false := by decide) (he : starEach (e :: es) X.env = (false, eval e X.env) :: starEach es X.env := by rfl) (hpl : (backTo pos (starEach es X.env)).any (·.1) = false := by rfl) :
    PE X (.Call (.Name x p) (e :: es) [] pos) (tD X.K W (callF g fa)) := PE.weak (pe_callTy hc hg hm hv ha hn hdb he hpl) (tD_call hd)
theorem pn_callTy {T : String} {x : Str} {r : List V → Hp → VK → Prop} {g : List D → Option (List D)} (hc : CallR X (.type T) r) (hd : CallN X.K r g) (hm : X.mg x = none) (hv : bootBuiltins x = some (.type T)) (ha : PA X (e :: es) (tDs X.K W fa)) (hg : Gl X x := by rfl)
    (hn : x ≠ "__name__" := by decide) (hdb : (x == ("__debug__" : Str)) = false := by decide) (he : starEach (e :: es) X.env = (false, eval e X.env) :: starEach es X.env := by rfl) (hpl : (backTo pos (starEach es X.env)).any (·.1) = false := by rfl) :
    PE X (.Call (.Name x p) (e :: es) [] pos) (tN X.K W (callF g fa)) := PE.weak (pe_callTy hc hg hm hv ha hn hdb he hpl) (tN_call hd)
def lenO : List D → Option D
  | [.str l] => if l.length ≤ sizeLine then some (.int (l.length : Nat)) else none
  | [.tup l] => some (.int (l.length : Nat))
  | [.lst l] => some (.int (l.length : Nat))
  | _ => none
theorem pd_len (hm : X.mg "len" = none) (ha : PA X (e :: es) (tDs X.K W fa)) (hg : Gl X "len" := by rfl) (he : starEach (e :: es) X.env = (false, eval e X.env) :: starEach es X.env := by rfl) (hpl : (backTo pos (starEach es X.env)).any (·.1) = false := by rfl) :
    PE X (.Call (.Name "len" p) (e :: es) [] pos) (tD X.K W (callF lenO fa)) := by
  refine pd_callB call_len (fun xs H Q ds z r hz q => ?_) hm PySem.boot_len ha hg (by decide) (by decide) he hpl
  unfold lenO at hz
  split at hz
  · rename_i l
    obtain ⟨v, r, rfl, rv, rr⟩ := r
    cases rv; cases rr
    split at hz
    · rename_i hl
      cases hz
      have h1 : (S l).length = l.length := by simp [Str.length]
      exact ⟨_, (S l).length, rfl, ⟨by rw [h1]; exact hl, rfl⟩, by rw [h1]; exact q _ H (Same.refl H) rfl⟩
    · cases hz
  · rename_i l
    obtain ⟨v, r, rfl, ⟨b, xs, rfl, h1, h2⟩, rr⟩ := r
    cases rr; cases hz
    exact ⟨_, xs.length, rfl, .inr ⟨xs, h1, rfl⟩, by rw [← h2.length]; exact q _ H (Same.refl H) rfl⟩
  · rename_i l
    obtain ⟨v, r, rfl, ⟨b, xs, rfl, h1, h2⟩, rr⟩ := r
    cases rr; cases hz
    exact ⟨_, xs.length, rfl, .inl ⟨xs, h1, rfl⟩, by rw [← h2.length]; exact q _ H (Same.refl H) rfl⟩
  · cases hz

/-! ### isinstance of a built-in type -/
def tyD : D → String
  | .non => "NoneType"
  | .bl _ => "bool"
  | .int _ => "int"
  | .str _ => "str"
  | .tup _ => "tuple"
  | .lst _ => "list"
theorem tyX_of {K : PySem.W.Frag} {H : Hp} {d : D} {v : V} (r : Rp K H d v) : TyX K H v (.type (tyD d)) := by
  cases d with
  | non => cases r; exact .base .non
  | bl b => cases r; exact .base (.bl b)
  | int b => cases r; exact .base (.int b)
  | str b => cases r; exact .base (.str _)
  | tup b =>
    obtain ⟨a, xs, rfl, h, _⟩ := r
    rcases h with (h | ⟨o, h⟩) | ⟨o, _, _, h, c, _⟩
    · exact .base (.tup h)
    · exact .fTuple h
    · exact .kTuple h c
  | lst b =>
    obtain ⟨a, xs, rfl, h, _⟩ := r
    rcases h with (h | ⟨o, h⟩) | ⟨o, _, _, h, c, _⟩
    · exact .base (.lst h)
    · exact .base (.frz h)
    · exact .kList h c
def isiO (T : String) : D → Option D
  | .non => some (.bl false)
  | .bl _ => some (.bl (T == "bool" || T == "int"))
  | .int _ => some (.bl (T == "int"))
  | .str _ => some (.bl (T == "str"))
  | .tup _ => some (.bl (T == "tuple"))
  | .lst _ => some (.bl (T == "list"))
/-- the answers of the built-in types -/
def kitAll (T : String) : Bool := decide (kitB "NoneType" T = some false) && decide (kitB "bool" T = some (T == "bool" || T == "int")) && decide (kitB "int" T = some (T == "int")) && decide (kitB "str" T = some (T == "str")) && decide (kitB "tuple" T = some (T == "tuple")) && decide (kitB "list" T = some (T == "list"))
theorem kit_str : kitAll "str" = true := by decide +kernel
theorem kit_int : kitAll "int" = true := by decide +kernel
theorem kit_bool : kitAll "bool" = true := by decide +kernel
theorem kit_tuple : kitAll "tuple" = true := by decide +kernel
theorem pd_isi (T : String) {x : Str} {p2 : Pos} (hT : kitAll T = true) (hm : X.mg "isinstance" = none) (hx : X.mg x = none) (hb : bootBuiltins x = some (.type T)) (ha : PE X a (tD X.K W f)) (hg : Gl X "isinstance" := by rfl) (hg2 : Gl X x := by rfl)
    (hn : x ≠ "__name__" := by decide) (hdb : (x == ("__debug__" : Str)) = false := by decide) (he : starEach [a, .Name x p2] X.env = (false, eval a X.env) :: starEach [.Name x p2] X.env := by rfl) (he2 : starEach [.Name x p2] X.env = (false, eval (.Name x p2) X.env) :: starEach [] X.env := by rfl)
    (hpl : (backTo pos (starEach [.Name x p2] X.env)).any (·.1) = false := by rfl) :
    PE X (.Call (.Name "isinstance" p) [a, .Name x p2] [] pos) (tD X.K W (uopF (isiO T) f)) := by
  have hb2 : PE X (.Name x p2) (tC (.ty T)) := pe_bltn hg2 hx hb rfl hn hdb
  refine PE.weak (pe_callB call_isi hg hm PyProof.Rows.boot_isinstance (pa_cons ha (pa_cons hb2 pa_nil he2) he) (by decide) (by decide) he hpl) ?_
  rintro σ H Q ⟨e, he, hf⟩
  refine ⟨e, he, ?_⟩
  unfold uopF at hf
  cases h1 : f e with
  | bad => rw [h1] at hf; exact hf
  | exc c => rw [h1] at hf; exact hf
  | ok d =>
    rw [h1, rb_ok] at hf
    intro v H1 s1 r1
    unfold kitAll at hT
    simp only [Bool.and_eq_true, decide_eq_true_eq] at hT
    obtain ⟨⟨⟨⟨⟨k1, k2⟩, k3⟩, k4⟩, k5⟩, k6⟩ := hT
    have key : ∀ b, isiO T d = some (.bl b) → kitB (tyD d) T = some b → rIsi X.K [v, .ty T] H1 Q := fun b h2 h3 => by
      refine ⟨v, .ty T, .type (tyD d), .type T, b, rfl, .ty T, tyX_of r1, kit_ty h3, ?_⟩
      rw [h2] at hf
      exact hf _ H1 s1 rfl
    cases d with
    | non => exact key _ rfl k1
    | bl b => exact key _ rfl k2
    | int b => exact key _ rfl k3
    | str b => exact key _ rfl k4
    | tup b => exact key _ rfl k5
    | lst b => exact key _ rfl k6

/-! ### all, tuple, list -/
def blsO : List D → Option (List Bool)
  | [] => some []
  | .bl b :: r => (blsO r).map (b :: ·)
  | _ :: _ => none
theorem blsO_vals {K : PySem.W.Frag} {H : Hp} : ∀ {ds : List D} {vs : List V} {bs : List Bool}, RpAll K H ds vs → blsO ds = some bs → vs = bs.map V.bl
  | [], _, _, h, e => by cases h; simp [blsO] at e; subst e; rfl
  | d :: ds, _, bs, h, e => by
    obtain ⟨v, r, rfl, h1, h2⟩ := h
    cases d with
    | bl b =>
      simp only [blsO] at e
      cases q : blsO ds with
      | none => rw [q] at e; cases e
      | some cs =>
        rw [q] at e
        cases e
        cases h1
        rw [blsO_vals h2 q]
        rfl
    | _ => simp [blsO] at e
def allO : List D → Option D
  | [.lst l] => (blsO l).map fun bs => .bl (bs.all id)
  | _ => none
theorem pd_all (hc : X.calm = true) (hm : X.mg "all" = none) (ha : PA X (e :: es) (tDs X.K W fa)) (hg : Gl X "all" := by rfl) (he : starEach (e :: es) X.env = (false, eval e X.env) :: starEach es X.env := by rfl) (hpl : (backTo pos (starEach es X.env)).any (·.1) = false := by rfl) :
    PE X (.Call (.Name "all" p) (e :: es) [] pos) (tD X.K W (callF allO fa)) := by
  refine pd_callB (cr_all hc) (fun xs H Q ds z r hz q => ?_) hm (by decide +kernel) ha hg (by decide) (by decide) he hpl
  unfold allO at hz
  split at hz
  · rename_i l
    obtain ⟨v, r, rfl, ⟨b, xs, rfl, h1, h2⟩, rr⟩ := r
    cases rr
    cases hb : blsO l with
    | none => rw [hb] at hz; cases hz
    | some bs =>
      rw [hb] at hz
      cases hz
      have := blsO_vals h2 hb
      subst this
      exact ⟨b, bs, rfl, h1, q _ H (Same.refl H) rfl⟩
  · cases hz
def tupleO : List D → Option D
  | [.lst l] => some (.tup l)
  | [.tup l] => some (.tup l)
  | _ => none
theorem pd_tuple (hm : X.mg "tuple" = none) (ha : PA X (e :: es) (tDs X.K W fa)) (hg : Gl X "tuple" := by rfl) (he : starEach (e :: es) X.env = (false, eval e X.env) :: starEach es X.env := by rfl) (hpl : (backTo pos (starEach es X.env)).any (·.1) = false := by rfl) :
    PE X (.Call (.Name "tuple" p) (e :: es) [] pos) (tD X.K W (callF tupleO fa)) := by
  refine pd_callTy call_tuple_of (fun xs H Q ds z r hz q => ?_) hm (by decide +kernel) ha hg (by decide) (by decide) he hpl
  unfold tupleO at hz
  split at hz
  · obtain ⟨v, r, rfl, ⟨b, xs, rfl, h1, h2⟩, rr⟩ := r
    cases rr; cases hz
    exact ⟨b, xs, rfl, .inl ⟨h1, fun l hl => q _ _ (same_new hl) ⟨l, xs, rfl, SqT.of upd_same, h2.mono (same_new hl)⟩⟩⟩
  · obtain ⟨v, r, rfl, ⟨b, xs, rfl, h1, h2⟩, rr⟩ := r
    cases rr; cases hz
    exact ⟨b, xs, rfl, .inr ⟨h1, q _ H (Same.refl H) ⟨b, xs, rfl, h1, h2⟩⟩⟩
  · cases hz
def listO : List D → Option (List D)
  | [.lst l] => some l
  | [.tup l] => some l
  | _ => none
theorem pn_list (hm : X.mg "list" = none) (ha : PA X (e :: es) (tDs X.K W fa)) (hg : Gl X "list" := by rfl) (he : starEach (e :: es) X.env = (false, eval e X.env) :: starEach es X.env := by rfl) (hpl : (backTo pos (starEach es X.env)).any (·.1) = false := by rfl) :
    PE X (.Call (.Name "list" p) (e :: es) [] pos) (tN X.K W (callF listO fa)) := by
  refine pn_callTy call_list_of (fun xs H Q ds z r hz q => ?_) hm (by decide +kernel) ha hg (by decide) (by decide) he hpl
  unfold listO at hz
  split at hz
  · obtain ⟨v, r, rfl, ⟨b, xs, rfl, h1, h2⟩, rr⟩ := r
    cases rr; cases hz
    exact ⟨b, xs, rfl, .inl h1, fun l hl => q l xs _ hl (same_new hl) upd_same (h2.mono (same_hide1 hl))⟩
  · obtain ⟨v, r, rfl, ⟨b, xs, rfl, h1, h2⟩, rr⟩ := r
    cases rr; cases hz
    exact ⟨b, xs, rfl, .inr h1, fun l hl => q l xs _ hl (same_new hl) upd_same (h2.mono (same_hide1 hl))⟩
  · cases hz

/-! ### methods of texts -/
def lowO : D → Option D
  | .str l => if l.length ≤ 5592405 ∧ l.all (· < 128) = true then some (.str (l.map lo1)) else none
  | _ => none
def uppO : D → Option D
  | .str l => if l.length ≤ 5592405 ∧ l.all (· < 128) = true then some (.str (l.map up1)) else none
  | _ => none
theorem tD_m0 {K : PySem.W.Frag} {r : V → List V → Hp → VK → Prop} {g : D → Option D} (hg : ∀ l H (Q : VK) z, g (.str l) = some z → (∀ v H', Same H H' → Rp K H' z v → Q v H') → r (.str (S l)) [] H Q) (hs : ∀ d z, g d = some z → ∃ l, d = .str l) : ∀ σ H Q, tD K W (uopF g f) σ H Q → tM0 r (tD K W f) σ H Q := by
  rintro σ H Q ⟨e, he, hf⟩
  refine ⟨e, he, ?_⟩
  unfold uopF at hf
  cases h1 : f e with
  | bad => rw [h1] at hf; exact hf
  | exc c => rw [h1] at hf; exact hf
  | ok d =>
    rw [h1, rb_ok] at hf
    intro v H1 s1 r1
    cases h3 : g d with
    | none => rw [h3] at hf; exact hf.elim
    | some z =>
      rw [h3] at hf
      obtain ⟨l, rfl⟩ := hs d z h3
      cases r1
      exact ⟨⟨_, rfl⟩, hg l H1 Q z h3 fun v3 H3 s3 r3 => hf v3 H3 (s1.trans s3) r3⟩
theorem pd_lower (ha : PE X a (tD X.K W f)) (hbase : attributeBase a "lower" X.env (eval a X.env) = eval a X.env := by rfl) (hline : (apos.endLine == pos.line) = true := by rfl) : PE X (.Call (.Attribute a "lower" apos) [] [] pos) (tD X.K W (uopF lowO f)) := by
  refine PE.weak (pe_lower ha hbase hline) (tD_m0 (fun l H Q z hz q => ?_) fun d z hz => ?_)
  · simp only [lowO] at hz
    split at hz
    · rename_i hl
      cases hz
      refine ⟨S l, rfl, rfl, by simpa [Str.length] using hl.1, q _ H (Same.refl H) ?_⟩
      show V.str (Txt.lower (S l)) = V.str (S (l.map lo1))
      rw [lower_ascii (by simpa using hl.2)]
      simp [S]
    · cases hz
  · cases d <;> simp [lowO] at hz
    exact ⟨_, rfl⟩
theorem pd_upper (ha : PE X a (tD X.K W f)) (hbase : attributeBase a "upper" X.env (eval a X.env) = eval a X.env := by rfl) (hline : (apos.endLine == pos.line) = true := by rfl) : PE X (.Call (.Attribute a "upper" apos) [] [] pos) (tD X.K W (uopF uppO f)) := by
  refine PE.weak (pe_upper ha hbase hline) (tD_m0 (fun l H Q z hz q => ?_) fun d z hz => ?_)
  · simp only [uppO] at hz
    split at hz
    · rename_i hl
      cases hz
      refine ⟨S l, rfl, rfl, by simpa [Str.length] using hl.1, q _ H (Same.refl H) ?_⟩
      show V.str (Txt.upper (S l)) = V.str (S (l.map up1))
      rw [upper_ascii (by simpa using hl.2)]
      simp [S]
    · cases hz
  · cases d <;> simp [uppO] at hz
    exact ⟨_, rfl⟩
def strsO : List D → Option (List (List Nat))
  | [] => some []
  | .str l :: r => (strsO r).map (l :: ·)
  | _ :: _ => none
theorem strsO_vals {K : PySem.W.Frag} {H : Hp} : ∀ {ds : List D} {vs : List V} {ls : List (List Nat)}, RpAll K H ds vs → strsO ds = some ls → vs = (ls.map S).map V.str
  | [], _, _, h, e => by cases h; simp [strsO] at e; subst e; rfl
  | d :: ds, _, bs, h, e => by
    obtain ⟨v, r, rfl, h1, h2⟩ := h
    cases d with
    | str b =>
      simp only [strsO] at e
      cases q : strsO ds with
      | none => rw [q] at e; cases e
      | some cs =>
        rw [q] at e
        cases e
        cases h1
        rw [strsO_vals h2 q]
        rfl
    | _ => simp [strsO] at e
/-- "".join of a list of texts -/
def joinO : D → D → Option D
  | .str [], .lst ds => match strsO ds with
    | some ls => if ls.flatten.length ≤ 16777216 then some (.str ls.flatten) else none
    | none => none
  | _, _ => none
def isS : D → Bool
  | .str _ => true
  | _ => false
/-- a method of a text with one argument -/
def bopS (g : D → D → Option D) (fa fb : En → Res D) : En → Res D := fun e => rb (fa e) fun x => if isS x then rb (fb e) fun y => ofO (g x y) else .bad
theorem join_empty : ∀ ls : List (List Nat), Str.join (S []) (ls.map S) = S ls.flatten
  | [] => rfl
  | [l] => by simp [Str.join]
  | l :: m :: r => by
    have ih := join_empty (m :: r)
    simp only [List.map_cons, Str.join] at ih ⊢
    rw [ih]
    show Str.append (Str.append (S l) (S [])) (S (m :: r).flatten) = _
    simp [Str.append, S]
theorem pd_join (ha : PE X a (tD X.K W f)) (hb : PE X e (tD X.K W fb)) (hs : starEach [e] X.env = [(false, eval e X.env)] := by rfl) (hbase : attributeBase a "join" X.env (eval a X.env) = eval a X.env := by rfl) (hline : (apos.endLine == pos.line) = true := by rfl) :
    PE X (.Call (.Attribute a "join" apos) [e] [] pos) (tD X.K W (bopS joinO f fb)) := by
  refine PE.weak (pe_join ha hb hs hbase hline) ?_
  rintro σ H Q ⟨e, he, hf⟩
  refine ⟨e, he, ?_⟩
  unfold bopS at hf
  cases h1 : f e with
  | bad => rw [h1] at hf; exact hf
  | exc c => rw [h1] at hf; exact hf
  | ok d =>
    rw [h1, rb_ok] at hf
    intro v H1 s1 r1
    by_cases hS : isS d = true
    rotate_left
    · rw [if_neg hS] at hf; exact hf.elim
    rw [if_pos hS] at hf
    cases h2 : fb e with
    | bad => rw [h2] at hf; exact hf.elim
    | exc c =>
      rw [h2] at hf
      cases d with
      | str l => cases r1; exact ⟨⟨_, rfl⟩, e, he.mono s1, by rw [h2]; exact fun H' q => hf H' (s1.trans q)⟩
      | _ => cases hS
    | ok d2 =>
      rw [h2, rb_ok] at hf
      cases h3 : joinO d d2 with
      | none => rw [h3] at hf; exact hf.elim
      | some z =>
        rw [h3] at hf
        unfold joinO at h3
        split at h3
        · rename_i ds
          cases r1
          refine ⟨⟨_, rfl⟩, e, he.mono s1, ?_⟩
          rw [h2]
          intro v2 H2 s2 r2
          cases h4 : strsO ds with
          | none => rw [h4] at h3; cases h3
          | some ls =>
            rw [h4] at h3
            simp only at h3
            split at h3
            · rename_i hl
              cases h3
              obtain ⟨b, xs, rfl, q1, q2⟩ := r2
              have := strsO_vals q2 h4
              subst this
              refine ⟨S [], b, ls.map S, rfl, rfl, .inl q1, ?_, hf _ H2 (s1.trans s2) ?_⟩
              · have e1 : ((ls.map S).map (·.length)).sum = ls.flatten.length := by
                  rw [List.length_flatten, List.map_map]
                  congr 1
                  all_goals (first | done | exact List.map_congr_left fun l _ => by simp [Str.length])
                rw [e1]
                simpa [Str.length] using hl
              · show V.str (Txt.join (S []) (ls.map S)) = V.str (S ls.flatten)
                have e2 : Txt.join (S []) (ls.map S) = Str.join (S []) (ls.map S) := PySem.StrLaws.glued_eq_join _ _
                rw [e2, join_empty]
            · cases h3
        · cases h3
end
end FM

set_option Elab.async false
set_option linter.all false
set_option maxRecDepth 100000
/-! FM7: a, b = x, y; a module's texts; stores into own lists. -/
namespace FM
open PySem PySem.Spec PyProof.Rows L2
section
variable {K : PySem.W.Frag} {X : Cx} {W : Wx} {a b : Expr} {fa : En → Res (List D)} {f : En → Res D} {p pos : Pos}
/-- a text that stands at a name of the module -/
theorem pd_glob (l : List Nat) {x : Str} (hm : ∃ t, X.mg x = some (.str (S l) t)) (hg : Gl X x := by rfl) (hd : (x == ("__debug__" : Str)) = false := by decide) : PE X (.Name x pos) (tD X.K W (cD (.str l))) := by
  obtain ⟨t, hm⟩ := hm
  exact PE.weak (pe_glob hg hm (v := .str (S l)) ⟨t, rfl⟩ hd) (tD_const fun _ _ => rfl)
/-- a, b = x, y (locals) -/
def parS (i j : Nat) (f : En → Res (List D)) : En → Res Fl := fun e => rb (f e) fun ds => match ds with
  | [d, d'] => rb (setN i d e) fun e1 => nxS (setN j d' e1)
  | _ => .bad
theorem par_D {i j : Nat} : ∀ Z σ H, tS K W (parS i j fa) Z σ H → tPar i j (tDs K W fa) Z σ H := by
  rintro Z σ H ⟨G, e, he, hf⟩
  refine ⟨e, he.env, ?_⟩
  unfold parS at hf
  cases h1 : fa e with
  | bad => rw [h1] at hf; exact hf
  | exc c => rw [h1] at hf; exact fun H' s => hf σ H' (he.same.trans s)
  | ok ds =>
    rw [h1, rb_ok] at hf
    intro vs H1 s1 r1
    match ds, hf with
    | [d, d'], hf =>
      obtain ⟨v, r, rfl, rv, v2, r2, rfl, rv2, rr⟩ := r1
      cases rr
      refine ⟨v, v2, rfl, ?_⟩
      simp only at hf
      unfold setN at hf
      split at hf
      · rename_i hl
        rw [rb_ok] at hf
        split at hf
        · rename_i hl2
          have h2 := (he.keep s1).setD i hl rv
          have h3 := h2.setD j hl2 rv2
          exact hf _ H1 h3
        · exact hf.elim
      · exact hf.elim
    | [], hf => exact hf.elim
    | [_], hf => exact hf.elim
    | _ :: _ :: _ :: _, hf => exact hf.elim
theorem pds_par (i j : Nat) {x y : Str} {px py pt : Pos} {kt k2 pt2} (hc : X.calm = true) (hN : X.N.Nodup) (ha : PA X [a, b] (tDs X.K W fa)) (hi : X.N[i]? = some x := by rfl) (hj : X.N[j]? = some y := by rfl) (hij : i ≠ j := by decide)
    (hx : X.env.scope.names.lookup x = some .local := by rfl) (hy : X.env.scope.names.lookup y = some .local := by rfl) 
    (hw : swappedStores [.Tuple [.Name x px, .Name y py] kt pt] (.Tuple [a, b] k2 pt2) X.env = pure (some [x, y]) := by rfl)
    (hs : swapsWithSole [.Tuple [.Name x px, .Name y py] kt pt] (.Tuple [a, b] k2 pt2) pos.line X.env = pure false := by rfl) :
    PS X (.Assign [.Tuple [.Name x px, .Name y py] kt pt] (.Tuple [a, b] k2 pt2) pos) (tS X.K W (parS i j fa)) := PS.weak (ps_par hc hN hi hj hij hx hy ha hw hs) par_D

/-! ### stores into what a name owns -/
/-- name.append(e) -/
def appS (i : Nat) (f : En → Res D) : En → Res Fl := fun e => match e[i]? with
  | some (.own xs) => rb (f e) fun d => if d.lf ∧ xs.length < sizeLine then .ok (.nx (e.set i (.own (xs ++ [d])))) else .bad
  | _ => .bad
theorem app_D {i : Nat} : ∀ Z σ H, tS K W (appS i f) Z σ H → tDrop (tBM K "list" rAppend (tVar i) (tCons (tD K W f) tNil)) Z σ H := by
  rintro Z σ H ⟨G, e, he, hf⟩
  unfold appS at hf
  split at hf
  · rename_i xs hx
    obtain ⟨c, vs, e1, e2, e3⟩ := he.at_ i _ hx
    refine ⟨.ref c, e1, .inl ⟨rfl, vs, SqL.of e2⟩, e, he.env, ?_⟩
    cases h1 : f e with
    | bad => rw [h1] at hf; exact hf
    | exc c => rw [h1] at hf; exact fun H' s => hf σ H' (he.same.trans s)
    | ok d =>
      rw [h1, rb_ok] at hf
      intro v H1 s1 r1
      split at hf
      · rename_i hl
        have he1 := he.keep s1
        have l := e3.length
        refine ⟨c, vs, v, rfl, rfl, s1 _ _ e2, by omega, hf σ _ (he1.chg i hx rfl rfl e1 ⟨c, vs ++ [v], rfl, upd_same, ?_⟩)⟩
        have r2 := he.lift s1 (by rw [hl.1]; rfl) r1
        exact (e3.mono (hide_mono s1)).append ⟨v, [], rfl, r2, rfl⟩
      · exact hf.elim
  · exact hf.elim
theorem pds_app (i : Nat) {x : Str} {px apos cpos : Pos} (he : PE X a (tD X.K W f)) (hN : X.N[i]? = some x := by rfl) (hv : Vis X.env.scope x := by first | exact Or.inl rfl | exact Or.inr (Or.inl rfl) | exact Or.inr (Or.inr rfl)) (hd : (x == ("__debug__" : Str)) = false := by decide) (hcd : (x == ("__classdict__" : Str)) = false := by decide)
    (hbase : attributeBase (.Name x px) "append" X.env (eval (.Name x px) X.env) = eval (.Name x px) X.env := by rfl)
    (hfew : ((backTo cpos (starEach [a] X.env)).all (fun x => !x.1) && (backToKw cpos (keywordEach [] X.env)).all (fun x => x.1.isSome) && decide ([a].length + ([] : List Keyword).length + (if ([] : List Keyword).isEmpty then 0 else 1) < 30)) = true := by rfl)
    (hline : (apos.endLine == cpos.line) = true := by rfl) (hs : starEach [a] X.env = (false, eval a X.env) :: starEach [] X.env := by rfl) (hplain : (backTo cpos (starEach [] X.env)).any (·.1) = false := by rfl)
    (hsw : swapsWith (.Call (.Attribute (.Name x px) "append" apos) [a] [] cpos) none pos.line X.env = pure false := by rfl) :
    PS X (.Expr (.Call (.Attribute (.Name x px) "append" apos) [a] [] cpos) pos) (tS X.K W (appS i f)) :=
  PS.weak (ps_expr (pe_bm PySem.F.plainAttrs_list PySem.F.slot_list_append PySem.F.type_list_append mt_append (pe_var hN hv hd hcd) (pa_cons he pa_nil hs) hbase hfew hline hs hplain) hsw) app_D
/-- name.extend(a new list) -/
def extS (i : Nat) (f : En → Res (List D)) : En → Res Fl := fun e => match e[i]? with
  | some (.own xs) => rb (f e) fun ds => if lfAll ds ∧ xs.length + ds.length ≤ sizeLine then .ok (.nx (e.set i (.own (xs ++ ds)))) else .bad
  | _ => .bad
theorem ext_D {i : Nat} : ∀ Z σ H, tS K W (extS i fa) Z σ H → tDrop (tBM K "list" rExtend (tVar i) (tCons (tN K W fa) tNil)) Z σ H := by
  rintro Z σ H ⟨G, e, he, hf⟩
  unfold extS at hf
  split at hf
  · rename_i xs hx
    obtain ⟨c, vs, e1, e2, e3⟩ := he.at_ i _ hx
    refine ⟨.ref c, e1, .inl ⟨rfl, vs, SqL.of e2⟩, e, he.env, ?_⟩
    cases h1 : fa e with
    | bad => rw [h1] at hf; exact hf
    | exc c => rw [h1] at hf; exact fun H' s => hf σ H' (he.same.trans s)
    | ok ds =>
      rw [h1, rb_ok] at hf
      intro b ws H1 nb s1 eb r1
      split at hf
      · rename_i hl
        have he1 := he.keep s1
        have l := e3.length
        have l2 := r1.length
        refine ⟨c, b, vs, ws, rfl, rfl, s1 _ _ e2, eb, by omega, hf σ _ (he1.chg i hx rfl rfl e1 ⟨c, vs ++ ws, rfl, upd_same, ?_⟩)⟩
        have r2 := he.liftAll s1 (by rw [hl.1]; rfl) (r1.mono (hide_same _))
        exact (e3.mono (hide_mono s1)).append r2
      · exact hf.elim
  · exact hf.elim
theorem pds_ext (i : Nat) {x : Str} {px apos cpos : Pos} (he : PE X a (tN X.K W fa)) (hN : X.N[i]? = some x := by rfl) (hv : Vis X.env.scope x := by first | exact Or.inl rfl | exact Or.inr (Or.inl rfl) | exact Or.inr (Or.inr rfl)) (hd : (x == ("__debug__" : Str)) = false := by decide) (hcd : (x == ("__classdict__" : Str)) = false := by decide)
    (hbase : attributeBase (.Name x px) "extend" X.env (eval (.Name x px) X.env) = eval (.Name x px) X.env := by rfl)
    (hfew : ((backTo cpos (starEach [a] X.env)).all (fun x => !x.1) && (backToKw cpos (keywordEach [] X.env)).all (fun x => x.1.isSome) && decide ([a].length + ([] : List Keyword).length + (if ([] : List Keyword).isEmpty then 0 else 1) < 30)) = true := by rfl)
    (hline : (apos.endLine == cpos.line) = true := by rfl) (hs : starEach [a] X.env = (false, eval a X.env) :: starEach [] X.env := by rfl) (hplain : (backTo cpos (starEach [] X.env)).any (·.1) = false := by rfl)
    (hsw : swapsWith (.Call (.Attribute (.Name x px) "extend" apos) [a] [] cpos) none pos.line X.env = pure false := by rfl) :
    PS X (.Expr (.Call (.Attribute (.Name x px) "extend" apos) [a] [] cpos) pos) (tS X.K W (extS i fa)) :=
  PS.weak (ps_expr (pe_bm PySem.F.plainAttrs_list PySem.F.slot_list_extend PySem.F.type_list_extend mt_extend (pe_var hN hv hd hcd) (pa_cons he pa_nil hs) hbase hfew hline hs hplain) hsw) ext_D
/-- name[k] = e -/
def stoS (i : Nat) (fk f : En → Res D) : En → Res Fl := fun e => match e[i]? with
  | some (.own xs) => rb (f e) fun d => rb (fk e) fun k => match k with
    | .int j => (match ixN xs.length j with
      | some m => if d.lf then .ok (.nx (e.set i (.own (xs.set m d)))) else .bad
      | none => .bad)
    | _ => .bad
  | _ => .bad
theorem sto_D {i : Nat} {fk : En → Res D} : ∀ Z σ H, tS K W (stoS i fk f) Z σ H → tAsg (tD K W f) (gSub (tVar i) (tD K W fk) rSetL) Z σ H := by
  rintro Z σ H ⟨G, e, he, hf⟩
  unfold stoS at hf
  split at hf
  · rename_i xs hx
    obtain ⟨c, vs, e1, e2, e3⟩ := he.at_ i _ hx
    refine st_expr he hf fun d v H1 _ s1 r1 hk => ?_
    have he1 := he.keep s1
    refine ⟨.ref c, e1, st_expr he1 hk fun k u H2 _ s2 r2 hk2 => ?_⟩
    cases k with
    | int j =>
      cases r2
      simp only at hk2
      split at hk2
      · rename_i m hm
        split at hk2
        · rename_i hl
          have he2 := he1.keep s2
          have l := e3.length
          refine ⟨c, vs, j, m, rfl, rfl, s2 _ _ (s1 _ _ e2), by rw [← l]; exact hm, hk2 σ _ (he2.chg i hx rfl rfl e1 ⟨c, vs.set m v, rfl, upd_same, ?_⟩)⟩
          have r3 := he.lift (s1.trans s2) (d := d) (by rw [hl]; rfl) (r1.mono s2)
          exact (e3.mono (hide_mono (s1.trans s2))).set m r3
        · exact hk2.elim
      · exact hk2.elim
    | _ => exact (hk2 : False).elim
  · exact hf.elim
theorem pds_sto (i : Nat) {x : Str} {px spos : Pos} {fk : En → Res D} (he : PE X a (tD X.K W f)) (hk : PE X b (tD X.K W fk)) (hN : X.N[i]? = some x := by rfl) (hv : Vis X.env.scope x := by first | exact Or.inl rfl | exact Or.inr (Or.inl rfl) | exact Or.inr (Or.inr rfl)) (hd : (x == ("__debug__" : Str)) = false := by decide) (hcd : (x == ("__classdict__" : Str)) = false := by decide)
    (ha : ∀ v, assign (.Subscript (.Name x px) b spos) X.env v = (do
      let ov ← holding [v] (eval (.Name x px) X.env)
      let iv ← holding [v, ov] (eval b X.env)
      standAt spos
      holding [v, ov, iv] (setItem ov iv v)
      release [v, ov, iv] []) := by intro _; rfl)
    (hs : swapsWithSole [.Subscript (.Name x px) b spos] a pos.line X.env = pure false := by rfl) (hw : swappedStores [.Subscript (.Name x px) b spos] a X.env = pure none := by rfl) (h1 : (assignEach [.Subscript (.Name x px) b spos] X.env).map (·.2) = [assign (.Subscript (.Name x px) b spos) X.env] := by rfl) :
    PS X (.Assign [.Subscript (.Name x px) b spos] a pos) (tS X.K W (stoS i fk f)) := PS.weak (ps_asg he (pg_sub (pe_var hN hv hd hcd) hk set_list ha) hs hw h1) sto_D
/-- return name, the name owns a list -/
theorem pds_retO (i : Nat) {x : Str} {px : Pos} (hN : X.N[i]? = some x := by rfl) (hv : Vis X.env.scope x := by first | exact Or.inl rfl | exact Or.inr (Or.inl rfl) | exact Or.inr (Or.inr rfl)) (hd : (x == ("__debug__" : Str)) = false := by decide) (hcd : (x == ("__classdict__" : Str)) = false := by decide) :
    PS X (.Return (some (.Name x px)) pos) (tS X.K W (retO i)) := by
  refine PS.weak (ps_ret (pe_var hN hv hd hcd)) ?_
  rintro Z σ H ⟨G, e, he, hf⟩
  unfold retO at hf
  split at hf
  · rename_i xs hx
    obtain ⟨c, vs, e1, e2, e3⟩ := he.at_ i _ hx
    refine ⟨.ref c, e1, ?_⟩
    have oc : owns σ e c := ⟨i, _, hx, rfl, e1⟩
    refine hf c vs H ?_ he.same e2 ?_
    · cases q : G c with
      | none => rfl
      | some o =>
        have := he.g c o q
        rw [hide_yes oc] at this
        cases this
    · refine e3.mono (hide_sub fun b hb => ?_)
      subst hb
      exact oc
  · exact hf.elim
end
end FM

set_option Elab.async false
set_option linter.all false
set_option maxRecDepth 100000
/-! FM8: how many rules are in a tuple, by a set of at most four tuples of ints and texts. -/
namespace FM
open PySem PySem.Spec PyProof.Rows L2
def keyO : D → Option Key
  | .int i => some (.inl i)
  | .str l => some (.inr (S l))
  | _ => none
def keysO : D → Option (List Key)
  | .tup ds => ds.mapM keyO
  | _ => none
/-- the members of a set, in the order in which they came -/
noncomputable def addAll : List (List Key) → List (List Key) → List (List Key)
  | acc, [] => acc
  | acc, k :: r => addAll (open Classical in if k ∈ acc then acc else acc ++ [k]) r
noncomputable def lenSetR : D → Option D
  | .tup ds => match ds.mapM keysO with
    | some ks => if ks.length ≤ 4 then some (.int ((addAll [] ks).length : Nat)) else none
    | none => none
  | _ => none
section
variable {P : Program} {w : World} {A : Around} {E : Value → Shared → Prop} {s : Shared}
abbrev kh (P : Program) (w : World) (k : List Key) : Int := tupleKeyHash (mixKind P w) k
abbrev IsK (P : Program) (w : World) (h : Heap) (k : List Key) (a : Addr) : Prop := IsTupleKey (mixKind P w) h k a
/-- a value without an address -/
def plainV : Value → Bool
  | .int .. => true
  | .str .. => true
  | _ => false
theorem items_plain {k : List Key} {vs : List Value} (h : ItemsAre (mixKind P w) k vs) : ∀ v ∈ vs, plainV v = true := by
  induction h with
  | nil => intro v hv; cases hv
  | cons h1 _ ih =>
    intro v hv
    rcases List.mem_cons.mp hv with rfl | hv
    · rcases keyIs_shape h1 with ⟨i, t, _, rfl⟩ | ⟨x, t, _, rfl⟩ <;> rfl
    · exact ih v hv
theorem class_plain (n : Nat) {v : Value} (h : plainV v = true) : ofAClassStatement n v = pure false := by
  cases v with
  | int i t => cases n <;> rfl
  | str i t => cases n <;> rfl
  | _ => cases h
theorem byv_plain (n : Nat) {v : Value} (h : plainV v = true) : ∃ b, hashByValue n v = pure b := by
  cases v with
  | int i t => cases n <;> exact ⟨_, rfl⟩
  | str i t => cases n <;> exact ⟨_, rfl⟩
  | _ => cases h
theorem class_tup {k : List Key} {b : Addr} {Q : Bool → Shared → Prop} (hk : IsK P w s.heap k b) (h : Q false s) : wpAny (model P w) A (ofAClassStatement 8 (.ref b)) Q E s := by
  have hT := hk.typeIs
  obtain ⟨o, items, n, ho, _, hd, hi⟩ := hk
  unfold ofAClassStatement
  refine wpAny_bind (wpAny_typeOf hT ?_)
  dsimp only
  have e : (("tuple" : String) == "tuple") = true := by decide
  simp only [e, if_true, Bool.not_true, Bool.false_eq_true, if_false]
  try refine wpAny_bind (wpAny_pure ?_)
  try simp only [Bool.not_true, Bool.false_eq_true, if_false]
  refine wpAny_bind (wpAny_seqItems ho hd ?_)
  refine wpAny_bind ?_
  show wpAny _ _ (forIn items _ _) _ _ s
  rw [← Array.forIn_toList]
  refine wpAny_forIn_list _ (fun rest r s' => r.1 = none ∧ s' = s ∧ ∀ v ∈ rest, plainV v = true) _ ?_ ?_ _ _ ⟨rfl, rfl, items_plain hi⟩
  · rintro v rest r s' ⟨hr, rfl, hall⟩
    rw [class_plain 7 (hall v List.mem_cons_self)]
    refine wpAny_bind (wpAny_pure ?_)
    simp only [Bool.false_eq_true, if_false]
    exact wpAny_pure ⟨rfl, rfl, fun u hu => hall u (List.mem_cons_of_mem _ hu)⟩
  · rintro ⟨r1, r2⟩ s' ⟨hr, rfl, _⟩
    simp only at hr
    subst hr
    exact wpAny_pure h
theorem byv_tup {k : List Key} {b : Addr} {Q : Bool → Shared → Prop} (hk : IsK P w s.heap k b) (h : ∀ y, Q y s) : wpAny (model P w) A (hashByValue 8 (.ref b)) Q E s := by
  have hT := hk.typeIs
  obtain ⟨o, items, n, ho, _, hd, hi⟩ := hk
  unfold hashByValue
  refine wpAny_bind (wpAny_specialOf hT F.slot_tuple_hash.lookup ?_)
  refine wpAny_bind (wpAny_seqItems ho hd ?_)
  refine wpAny_bind ?_
  show wpAny _ _ (forIn items _ _) _ _ s
  rw [← Array.forIn_toList]
  refine wpAny_forIn_list _ (fun rest r s' => (r.1 = none ∨ r.1 = some false) ∧ s' = s ∧ ∀ v ∈ rest, plainV v = true) _ ?_ ?_ _ _ ⟨.inl rfl, rfl, items_plain hi⟩
  · rintro v rest r s' ⟨hr, rfl, hall⟩
    obtain ⟨y, e⟩ := byv_plain 7 (hall v List.mem_cons_self)
    rw [e]
    refine wpAny_bind (wpAny_pure ?_)
    cases y with
    | false =>
      simp only [Bool.not_false, if_true]
      exact wpAny_pure (wpAny_pure (h _))
    | true =>
      simp only [Bool.not_true, Bool.false_eq_true, if_false]
      exact wpAny_pure ⟨.inl rfl, rfl, fun u hu => hall u (List.mem_cons_of_mem _ hu)⟩
  · rintro ⟨r1, r2⟩ s' ⟨hr, rfl, _⟩
    simp only at hr
    rcases hr with rfl | rfl <;> exact wpAny_pure (h _)
theorem unseen_tup {k : List Key} {b : Addr} {Q : Bool → Shared → Prop} (hk : IsK P w s.heap k b) {ys : List Value} (hy : ∀ y ∈ ys, ∃ k' c, y = Value.ref c ∧ IsK P w s.heap k' c) (h : Q false s) :
    wpAny (model P w) A (searchCouldBeSeen (.ref b) ys) Q E s := by
  unfold searchCouldBeSeen
  refine wpAny_bind ?_
  refine wpAny_forIn_list _ (fun rest r s' => r.1 = none ∧ s' = s ∧ ∀ y ∈ rest, ∃ k' c, y = Value.ref c ∧ IsK P w s.heap k' c) _ ?_ ?_ _ _ ⟨rfl, rfl, hy⟩
  · rintro v rest r s' ⟨hr, rfl, hall⟩
    obtain ⟨k', c, rfl, hc⟩ := hall v List.mem_cons_self
    have rest' : ∀ y ∈ rest, ∃ k' c, y = Value.ref c ∧ IsK P w s'.heap k' c := fun u hu => hall u (List.mem_cons_of_mem _ hu)
    dsimp only
    by_cases hv : (b == c || (carriedByValue (.ref b) && carriedByValue (.ref c))) = true
    · exact wp_if_pos hv (wpAny_pure ⟨rfl, rfl, rest'⟩)
    · refine wp_if_neg hv ?_
      refine wpAny_bind (wpAny_eqIsQuiet_tuple hk ?_)
      simp only [Bool.not_true, Bool.false_eq_true, if_false]
      refine wpAny_bind (wpAny_eqIsQuiet_tuple hc ?_)
      simp only [Bool.not_true, Bool.false_eq_true, if_false]
      refine wpAny_bind (class_tup hk ?_)
      simp only [Bool.false_eq_true, if_false]
      refine wpAny_bind (class_tup hc ?_)
      simp only [Bool.false_eq_true, if_false]
      exact wpAny_pure ⟨rfl, rfl, rest'⟩
  · rintro ⟨r1, r2⟩ s' ⟨hr, rfl, _⟩
    simp only at hr
    subst hr
    exact wpAny_pure h
/-- a small set of rules: never laid anew -/
structure Small (P : Program) (w : World) (h : Heap) (a : Addr) (L : List (Addr × List Key)) (es : Array (Int × Value)) (ep : Nat) (t : SetTable) : Prop where
  ob : ∃ o, h.get? a = some o ∧ o.ExactSet ∧ o.data = .set es ep t
  rows : es.toList = L.map fun p => (kh P w p.2, Value.ref p.1)
  tab : TabOk t (L.map fun p => kh P w p.2)
  tup : ∀ p ∈ L, IsK P w h p.2 p.1
  m7 : t.mask = 7
  few : L.length ≤ 4
variable {a : Addr} {L : List (Addr × List Key)} {es : Array (Int × Value)} {ep : Nat} {t : SetTable}
theorem Small.size {h : Heap} (R : Small P w h a L es ep t) : es.size = L.length := by
  have h := congrArg List.length R.rows
  simpa using h
theorem Small.fits {h : Heap} (R : Small P w h a L es ep t) : t.fits es.size = true := by
  have h1 := R.tab.sz
  have h2 := R.size
  have h3 := R.few
  have h4 := R.m7
  rw [List.length_map] at h1
  unfold SetTable.fits SetTable.fill
  rw [R.tab.dm, Bool.and_eq_true, beq_iff_eq, decide_eq_true_eq]
  show t.place.size = es.size ∧ t.place.size + 0 ≤ t.mask
  omega
theorem Small.entry {h : Heap} (R : Small P w h a L es ep t) {i : Nat} {p : Addr × List Key} (hp : L[i]? = some p) : es[i]? = some (kh P w p.2, Value.ref p.1) := by
  rw [← Array.getElem?_toList, R.rows, List.getElem?_map, hp]
  rfl
theorem Small.keep {h h' : Heap} (R : Small P w h a L es ep t) (hk : ∀ b o, h.get? b = some o → h'.get? b = some o) : Small P w h' a L es ep t := by
  obtain ⟨o, ho, r⟩ := R.ob
  exact ⟨⟨o, hk a o ho, r⟩, R.rows, R.tab, fun p hp => by
    obtain ⟨o, items, n, h1, h2⟩ := R.tup p hp
    exact ⟨o, items, n, hk _ o h1, h2⟩, R.m7, R.few⟩
/-- where the way stands after c steps -/
abbrev st (t : SetTable) (h : Int) (c : Nat) : SetTable.Probe := nth t.mask (runAt t.mask (SetTable.bits h % (t.mask + 1)) (SetTable.bits h)) c
theorem st_dummy (t : SetTable) (h : Int) (c : Nat) : (st t h c).dummy = none := by
  have key : ∀ (n : Nat) (p : SetTable.Probe), p.dummy = none → (nth t.mask p n).dummy = none := by
    intro n
    induction n with
    | zero => intro p h; exact h
    | succ n ih =>
      intro p h
      refine ih (adv t.mask p) ?_
      unfold adv
      split <;> exact h
  exact key c _ rfl
theorem st_add (t : SetTable) (h : Int) (c q : Nat) : nth t.mask (st t h c) q = st t h (c + q) := (nth_add t.mask c _ q).symm
/-- the search of a key: it is found, or the first free slot of its way is -/
theorem seek (R : Small P w s.heap a L es ep t) {x : Addr} {k : List Key} (hx : IsK P w s.heap k x) (hu : A.units < cLine) {K : Nat} (hKf : K < 10 * SetTable.turns t.mask)
    (hK : way t.mask (kh P w k) K ∉ t.place.toList) (hKb : ∀ c, c < K → way t.mask (kh P w k) c ∈ t.place.toList) {Q : SetFound → Shared → Prop}
    (hin : k ∈ L.map (·.2) → Q (.there none) s) (hout : k ∉ L.map (·.2) → Q (.free (way t.mask (kh P w k) K) false) s) :
    ∀ (f c : Nat) (at0 : Option SetTable.Probe), at0.getD (t.probeStart (kh P w k)) = st t (kh P w k) c → c ≤ K → K - c < f →
      (∀ (i : Nat) p, L[i]? = some p → p.2 = k → ∃ c', c ≤ c' ∧ c' < K ∧ t.place.toList[i]? = some (way t.mask (kh P w k) c')) →
      wpAny (model P w) A (setSearchFrom a (.ref x) (kh P w k) true f at0) Q E s := by
  obtain ⟨o, ho, hex, hd⟩ := R.ob
  have gw : ¬ t.gaveWay = true := by unfold SetTable.gaveWay; rw [R.m7]; decide
  have hashAt : ∀ (i : Nat) p, L[i]? = some p → (es[i]?.map (·.1)).getD 0 = kh P w p.2 := fun i p hp => by rw [R.entry hp]; rfl
  intro f
  induction f with
  | zero => intro c at0 _ _ hf; exact absurd hf (Nat.not_lt_zero _)
  | succ f ih =>
    intro c at0 hst hc hf hre
    rw [setSearchFrom_succ]
    refine wpAny_bind (wpAny_setState_of ho hd R.fits ?_)
    dsimp only
    refine wp_if_neg gw ?_
    try refine wpAny_bind (wpAny_pure ?_)
    have e1 : ∀ q, (nth t.mask (st t (kh P w k) c) q).j = way t.mask (kh P w k) (c + q) := fun q => congrArg SetTable.Probe.j (st_add t _ c q)
    have spec := go_spec t R.tab.ris R.tab.dm (fun i => (es[i]?.map (·.1)).getD 0) (kh P w k) (10 * SetTable.turns t.mask) (K - c) _ (st_dummy t (kh P w k) c) (by omega)
      (fun q hq => by rw [e1]; exact hKb (c + q) (by omega)) (by rw [e1, show c + (K - c) = K by omega]; exact hK)
    have past : ∀ (q : Nat), (∀ (k' i' : Nat), k' < q → t.place.toList[i']? = some (nth t.mask (st t (kh P w k) c) k').j → (es[i']?.map (·.1)).getD 0 ≠ kh P w k) → ∀ (i0 : Nat) p0 c', L[i0]? = some p0 → p0.2 = k → c ≤ c' → t.place.toList[i0]? = some (way t.mask (kh P w k) c') → c + q ≤ c' := by
      intro q hno i0 p0 c' h0 hk0 a1 a3
      rcases Nat.lt_or_ge c' (c + q) with z | z
      · refine absurd ?_ (hno (c' - c) i0 (by omega) (by rw [e1, show c + (c' - c) = c' by omega]; exact a3))
        rw [hashAt i0 p0 h0, hk0]
      · exact z
    rcases spec with ⟨q, i, hq, hi, hh, hno, hpr⟩ | ⟨hno, hpr⟩
    · have hpr' : t.probe (fun i => (es[i]?.map (·.1)).getD 0) (kh P w k) (at0.getD (t.probeStart (kh P w k))) = some (.candidate (way t.mask (kh P w k) (c + q)) i (st t (kh P w k) (c + (q + 1)))) := by
        rw [hst, ← e1, ← st_add]
        exact hpr
      rw [hpr']
      dsimp only
      rw [e1] at hi
      have hil : i < L.length := by
        have h1 : i < t.place.toList.length := (List.getElem?_eq_some_iff.mp hi).1
        have h2 := R.tab.sz
        rw [List.length_map] at h2
        rw [Array.length_toList] at h1
        omega
      obtain ⟨p, hp⟩ : ∃ p, L[i]? = some p := ⟨_, List.getElem?_eq_getElem hil⟩
      have hmem : p ∈ L := List.mem_of_getElem? hp
      have rest : wpAny (model P w) A (searchRest a (.ref x) (kh P w k) true f es t (way t.mask (kh P w k) (c + q)) i (st t (kh P w k) (c + (q + 1)))) Q E s := by
        unfold searchRest
        rw [R.entry hp]
        dsimp only
        refine wpAny_bind (wpAny_holding (wpAny_eqBool_tuple hu (R.tup p hmem) hx ?_))
        refine wpAny_bind (wpAny_setState_of ho hd R.fits ?_)
        dsimp only
        by_cases hkk : p.2 = k
        · refine wp_if_pos (by simp [hkk]) ?_
          exact wpAny_pure (hin (List.mem_map.mpr ⟨p, hmem, hkk⟩))
        · refine wp_if_neg (by simp [hkk]) ?_
          try refine wpAny_bind (wpAny_pure ?_)
          rw [sameMem]
          dsimp only
          have hsl : t.slot (way t.mask (kh P w k) (c + q)) = .live i := slot_live R.tab.ris hi
          simp only [if_true, hsl, R.entry hp]
          refine wpAny_bind (wpAny_isSame_ref_self (wpAny_bind (wpAny_pure ?_)))
          simp only [if_true]
          refine wp_if_neg (by simp [hkk]) ?_
          refine ih (c + (q + 1)) _ rfl (by omega) (by omega) fun i0 p0 h0 hk0 => ?_
          obtain ⟨c', a1, a2, a3⟩ := hre i0 p0 h0 hk0
          refine ⟨c', ?_, a2, a3⟩
          have hge := past q hno i0 p0 c' h0 hk0 a1 a3
          rcases Nat.lt_or_ge (c + q) c' with y | y
          · omega
          · have ec : c' = c + q := Nat.le_antisymm y hge
            rw [ec] at a3
            have s0 := slot_live R.tab.ris a3
            rw [hsl] at s0
            injection s0 with s0
            rw [← s0, hp] at h0
            exact absurd ((congrArg Prod.snd (Option.some.inj h0)).trans hk0) hkk
      by_cases hl : t.led = true
      · refine wp_if_neg (by simp [hl]) ?_
        try refine wpAny_bind (wpAny_pure ?_)
        exact rest
      · refine wp_if_pos (by simp [hl]) ?_
        refine wpAny_bind (unseen_tup hx (fun y hy => ?_) ?_)
        · obtain ⟨e, he, ee⟩ := List.mem_map.mp hy
          have he1 : e ∈ es ∧ e.1 = kh P w k := by simpa using he
          have he2 : e ∈ es.toList := by simpa using he1.1
          rw [R.rows] at he2
          obtain ⟨p2, hp2, e2⟩ := List.mem_map.mp he2
          exact ⟨p2.2, p2.1, by rw [← ee, ← e2], R.tup p2 hp2⟩
        · refine wp_if_neg (by decide) ?_
          try refine wpAny_bind (wpAny_pure ?_)
          exact rest
    · have hpr' : t.probe (fun i => (es[i]?.map (·.1)).getD 0) (kh P w k) (at0.getD (t.probeStart (kh P w k))) = some (.empty (way t.mask (kh P w k) K) none) := by
        have e2 : way t.mask (kh P w k) K = (nth t.mask (st t (kh P w k) c) (K - c)).j := by
          rw [e1, show c + (K - c) = K by omega]
        rw [hst, e2]
        exact hpr
      rw [hpr']
      dsimp only
      refine wpAny_pure (hout fun hm => ?_)
      obtain ⟨p0, h0, hk0⟩ := List.mem_map.mp hm
      obtain ⟨i0, hi0, e0⟩ := List.getElem_of_mem h0
      have h00 : L[i0]? = some p0 := by rw [List.getElem?_eq_getElem hi0, e0]
      obtain ⟨c', a1, a2, a3⟩ := hre i0 p0 h00 hk0
      have := past (K - c) hno i0 p0 c' h00 hk0 a1 a3
      omega
theorem isK_but {h h' : Heap} {k : List Key} {a b : Addr} {o : Obj} {es : Array (Int × Value)} {ep : Nat} {t : SetTable} (hb : IsK P w h k b) (ho : h.get? a = some o) (hd : o.data = .set es ep t) (hs : Heap.SameBut a h h') : IsK P w h' k b := by
  obtain ⟨o', items, n, ho', hc, hd', hi⟩ := hb
  have hne : b ≠ a := by
    rintro rfl
    obtain rfl : o' = o := Option.some.inj (ho'.symm.trans ho)
    rw [hd] at hd'
    exact nomatch hd'
  exact ⟨o', items, n, (hs.2 b hne).trans ho', hc, hd', hi⟩
/-- adding a rule to the small set -/
theorem small_add (R : Small P w s.heap a L es ep t) {x : Addr} {k : List Key} (hx : IsK P w s.heap k x) (hu : A.units < cLine) (hfew : L.length + 1 ≤ 4) {Q : Bool → Shared → Prop}
    (hQ : ∀ b h' L' es' ep' t', Heap.SameBut a s.heap h' → Small P w h' a L' es' ep' t' → (k ∈ L.map (·.2) → L' = L) → (k ∉ L.map (·.2) → L'.Perm ((x, k) :: L)) → Q b { s with heap := h' }) :
    wpAny (model P w) A (setAddHashed a (.ref x) (kh P w k)) Q E s := by
  obtain ⟨o, ho, hex, hd⟩ := R.ob
  have h7 := R.m7
  obtain ⟨K, hKf, hK, hKb⟩ := R.tab.first (by rw [List.length_map]; omega) (kh P w k)
  have hbig : K < 100000 := by
    unfold SetTable.turns at hKf
    omega
  unfold setAddHashed
  refine wpAny_holding ?_
  rw [show (100000 : Nat) = 99999 + 1 from rfl, setAddHashedIn_succ]
  refine wpAny_bind (wpAny_setState_of ho hd R.fits ?_)
  dsimp only
  refine wp_if_neg (by simp [byScan, Value.scannable]) ?_
  try refine wpAny_bind (wpAny_pure ?_)
  unfold setSearch
  refine wpAny_bind (seek R hx hu hKf hK hKb (fun hm => ?_) (fun hm => ?_) 100000 0 none rfl (Nat.zero_le _) (by omega) fun i p hp hk => ?_)
  · dsimp only
    exact wpAny_pure (hQ false s.heap L es ep t (Heap.SameBut.refl a s.heap) R (fun _ => rfl) fun z => absurd hm z)
  · dsimp only
    refine wpAny_bind (wpAny_setState_of ho hd R.fits ?_)
    dsimp only
    obtain ⟨q1, q2, q3, q4, q5, q6, q7, q8, q9⟩ := R.tab.put hK hKb
    generalize hpt : t.put (way t.mask (kh P w k) K) = pt at q1 q3 q4 q5 q6 q7 q8 q9 ⊢
    obtain ⟨t1, p⟩ := pt
    dsimp only at q1 q3 q4 q5 q6 q7 q8 q9 ⊢
    subst q1
    have hin : (SetTable.insertAt es (SetTable.below t.place (way t.mask (kh P w k) K)) (kh P w k, Value.ref x)).toList = (L.take (SetTable.below t.place (way t.mask (kh P w k) K)) ++ (x, k) :: L.drop (SetTable.below t.place (way t.mask (kh P w k) K))).map fun p => (kh P w p.2, Value.ref p.1) := by
      rw [SetTable.toList_insertAt, R.rows, List.map_append, List.map_cons, List.map_take, List.map_drop]
    generalize hpp : SetTable.below t.place (way t.mask (kh P w k) K) = p at q2 q3 hin ⊢
    have pm := put_perm L p (x, k)
    have hlen : (L.take p ++ (x, k) :: L.drop p).length = L.length + 1 := pm.length_eq
    have hhs : (L.take p ++ (x, k) :: L.drop p).map (fun p => kh P w p.2) = (L.map fun p => kh P w p.2).take p ++ kh P w k :: (L.map fun p => kh P w p.2).drop p := by
      rw [List.map_append, List.map_cons, List.map_take, List.map_drop]
    rw [← hhs] at q3
    have hes : (SetTable.insertAt es p (kh P w k, Value.ref x)).size = L.length + 1 := by
      have h := congrArg List.length hin
      rw [Array.length_toList, List.length_map, hlen] at h
      exact h
    generalize SetTable.insertAt es p (kh P w k, Value.ref x) = es1 at hin hes ⊢
    generalize L.take p ++ (x, k) :: L.drop p = L1 at pm hlen q3 hin
    have fin : ∀ t2 : SetTable, t2 = t1 ∨ t2 = { t1 with plain := false } → wpAny (model P w) A (do
        storeSet a es1 t2
        if !false && t2.tooFull then setRelay a (SetTable.grown (es.size + 1))
        return true) Q E s := fun t2 ht2 => by
      have hm2 : t2.mask = 7 := by rcases ht2 with e | e <;> (rw [e]; show t1.mask = 7; rw [q4, h7])
      have hf2 : t2.fill = L.length + 1 := by rcases ht2 with e | e <;> (rw [e]; show t1.fill = L.length + 1; rw [q9, List.length_map])
      have T2 : TabOk t2 (L1.map fun p => kh P w p.2) := by
        rcases ht2 with rfl | rfl
        · exact q3
        · exact ⟨q3.ris, q3.dm, q3.sz, q3.mok, q3.bd, q3.reach⟩
      refine wpAny_bind (wpAny_storeSet_of ho hd ?_ (by rw [hes, sizeLine_eq]; omega))
      have sb : Heap.SameBut a s.heap (s.heap.update a (Obj.putSet es1 t2)) := Heap.SameBut.update ..
      have ho1 := store_at (es' := es1) (t' := t2) ho hd
      generalize s.heap.update a (Obj.putSet es1 t2) = h1 at sb ho1 ⊢
      have nf : ¬ (!false && t2.tooFull) = true := by
        unfold SetTable.tooFull
        rw [hf2, hm2]
        simp
        omega
      first
        | refine wp_if_neg nf ?_
        | (refine wpAny_bind ?_; refine wp_if_neg nf ?_; refine wpAny_pure ?_)
      refine wpAny_pure (hQ true h1 L1 es1 (ep + 1) t2 sb ⟨⟨_, ho1, ⟨hex.1, hex.2.1, hex.2.2⟩, rfl⟩, hin, T2, fun q hq => ?_, hm2, by omega⟩ (fun z => absurd z hm) fun _ => pm)
      rcases List.mem_cons.mp (pm.mem_iff.mp hq) with e | hq
      · rw [e]; exact isK_but hx ho hd sb
      · exact isK_but (R.tup q hq) ho hd sb
    cases hpl : t1.plain with
    | true =>
      refine wpAny_bind ?_
      refine byv_tup hx fun y => ?_
      cases y with
      | true => exact fin _ (.inl rfl)
      | false => exact fin _ (.inr rfl)
    | false =>
      refine wpAny_bind ?_
      refine wpAny_pure ?_
      exact fin _ (.inl rfl)
  · have hi : (L.map fun p => kh P w p.2)[i]? = some (kh P w k) := by rw [List.getElem?_map, hp, ← hk] <;> rfl
    have hil : i < t.place.toList.length := by
      have h1 : i < L.length := (List.getElem?_eq_some_iff.mp hp).1
      have h2 := R.tab.sz
      rw [List.length_map] at h2
      rw [Array.length_toList]
      omega
    have hj := List.getElem?_eq_getElem hil
    obtain ⟨c, hc, e⟩ := R.tab.before hK hi hj
    exact ⟨c, Nat.zero_le _, hc, by rw [hj, e]⟩
end
theorem addAll_old : ∀ {l acc : List (List Key)} {k : List Key}, k ∈ addAll acc l → addAll acc (l ++ [k]) = addAll acc l
  | [], acc, k, h => by
    have h' : k ∈ acc := h
    show addAll acc [k] = addAll acc []
    unfold addAll
    rw [if_pos h']
    rfl
  | a :: l, acc, k, h => by
    rw [List.cons_append]
    unfold addAll at h ⊢
    exact addAll_old h
theorem addAll_fresh : ∀ {l acc : List (List Key)} {k : List Key}, k ∉ addAll acc l → addAll acc (l ++ [k]) = addAll acc l ++ [k]
  | [], acc, k, h => by
    have h' : k ∉ acc := h
    show addAll acc [k] = addAll acc [] ++ [k]
    unfold addAll
    rw [if_neg h']
    rfl
  | a :: l, acc, k, h => by
    rw [List.cons_append]
    unfold addAll at h ⊢
    exact addAll_fresh h
/-- what the set has got from the first i rules -/
structure Has (ks : List (Addr × List Key)) (i : Nat) (L : List (Addr × List Key)) : Prop where
  mem : ∀ k, k ∈ L.map (·.2) ↔ k ∈ addAll [] ((ks.map (·.2)).take i)
  len : L.length = (addAll [] ((ks.map (·.2)).take i)).length
  few : L.length ≤ i
  sub : ∀ p ∈ L, p ∈ ks
theorem Has.zero (ks : List (Addr × List Key)) : Has ks 0 [] := ⟨fun k => by simp [addAll], by simp [addAll], Nat.le_refl _, fun p h => by cases h⟩
theorem Has.step {ks L L' : List (Addr × List Key)} {i : Nat} {p : Addr × List Key} (g : Has ks i L) (h : ks[i]? = some p) (c1 : p.2 ∈ L.map (·.2) → L' = L) (c2 : p.2 ∉ L.map (·.2) → L'.Perm (p :: L)) : Has ks (i + 1) L' := by
  have e : (ks.map (·.2)).take (i + 1) = (ks.map (·.2)).take i ++ [p.2] := by
    rw [List.take_succ, List.getElem?_map, h]; rfl
  by_cases hm : p.2 ∈ L.map (·.2)
  · rw [c1 hm]
    have := (g.mem p.2).mp hm
    exact ⟨fun k => by rw [e, addAll_old this]; exact g.mem k, by rw [e, addAll_old this]; exact g.len, Nat.le_succ_of_le g.few, g.sub⟩
  · have pm := c2 hm
    have hn : p.2 ∉ addAll [] ((ks.map (·.2)).take i) := fun z => hm ((g.mem p.2).mpr z)
    refine ⟨fun k => ?_, ?_, ?_, fun q hq => ?_⟩
    · rw [e, addAll_fresh hn, (pm.map (·.2)).mem_iff, List.map_cons, List.mem_cons, List.mem_append, g.mem k, List.mem_singleton, or_comm]
    · rw [e, addAll_fresh hn, pm.length_eq, List.length_cons, List.length_append, g.len]; rfl
    · rw [pm.length_eq, List.length_cons]; exact Nat.succ_le_succ g.few
    · rcases List.mem_cons.mp (pm.mem_iff.mp hq) with rfl | z
      · exact List.mem_of_getElem? h
      · exact g.sub q z
section
variable {P : Program} {w : World} {A : Around} {E : Value → Shared → Prop} {s : Shared}
theorem isK_keep {h h' : Heap} {k : List Key} {b : Addr} (x : IsK P w h k b) (hk : ∀ c o, h.get? c = some o → h'.get? c = some o) : IsK P w h' k b := by
  obtain ⟨o, items, n, ho, r⟩ := x
  exact ⟨o, items, n, hk b o ho, r⟩
theorem small_new {h : Heap} {a : Addr} (ho : h.get? a = some { cls := .type "set", dict := none, data := .set #[] 0 (.fresh 0 0 (!w.params.followText "set-order")) }) : Small P w h a [] #[] 0 (.fresh 0 0 (!w.params.followText "set-order")) where
  ob := ⟨_, ho, ⟨rfl, rfl, rfl⟩, rfl⟩
  rows := rfl
  tab := ⟨List.Pairwise.nil, rfl, rfl, .inl rfl, fun x hx => (by cases hx), fun i h j hi => (by simp at hi)⟩
  tup := fun p hp => (by cases hp)
  m7 := rfl
  few := Nat.zero_le _
/-- the loop that fills the set -/
theorem small_loop {I : Addr} {fp wr : List Addr} {G : Array GenState → Array GenState → Prop} {n : Nat} {Pv : Nat → Value → Prop} {St : Nat → Shared → Prop} {R : Result → Shared → Prop}
    (W : WalksS P w A.in1 I fp wr G n Pv St) (Z : Addr) (hSf : Z ∉ fp) (ks : List (Addr × List Key)) (hn : n = ks.length) (hfew : ks.length ≤ 4) (hval : ∀ i v, Pv i v → ∃ p, ks[i]? = some p ∧ v = .ref p.1)
    (h0 : Heap) (hk : ∀ p ∈ ks, IsK P w h0 p.2 p.1) (hS0 : h0.get? Z = none) (hw0 : ∀ b ∈ wr, h0.get? b = none) (hu : A.in1.units < cLine) :
    ∀ (k i : Nat) (s : Shared), n - i = k → i ≤ n → St i s → (∀ b o, h0.get? b = some o → s.heap.get? b = some o) → (∃ L es ep t, Small P w s.heap Z L es ep t ∧ Has ks i L) →
      (∀ s' L es ep t, Moved (Z :: wr) G s s' → Small P w s'.heap Z L es ep t → Has ks n L → (∀ b o, h0.get? b = some o → s'.heap.get? b = some o) → R (.ok (.ret .none)) s') →
      codeAny (model P w) A (.builtin "set.update.loop" ⟨[.ref Z, .ref I], []⟩) R s := by
  have hSw : Z ∉ wr := fun h => hSf (W.sub _ h)
  have hsub : ∀ b ∈ wr, b ∈ Z :: wr := fun b hb => List.mem_cons_of_mem _ hb
  have keepM : ∀ {s s' : Shared}, Moved wr G s s' → (∀ b o, h0.get? b = some o → s.heap.get? b = some o) → ∀ b o, h0.get? b = some o → s'.heap.get? b = some o := fun hm hkp b o e =>
    hm.heap b o (fun hb => by rw [hw0 b hb] at e; cases e) (hkp b o e)
  have keepS : ∀ {s s' : Shared} {L : List (Addr × List Key)} {es ep t}, Moved wr G s s' → (∀ b o, h0.get? b = some o → s'.heap.get? b = some o) → (∀ p ∈ L, p ∈ ks) → Small P w s.heap Z L es ep t → Small P w s'.heap Z L es ep t := fun hm hkp hs R => by
    obtain ⟨o, ho, r⟩ := R.ob
    exact ⟨⟨o, hm.heap Z o hSw ho, r⟩, R.rows, R.tab, fun p hp => isK_keep (hk p (hs p hp)) hkp, R.m7, R.few⟩
  intro k
  induction k with
  | zero =>
    intro i s hk' hi hst hkp ⟨L, es, ep, t, hS, g⟩ hR
    have hin : i = n := by omega
    subst hin
    refine codeAny_builtin F.entry_set_update_loop ?_
    rw [Around.under_plainId F.plain_set_update_loop _]
    show wpAny _ A.in1 (pyNext (.ref I) >>= _) _ _ s
    refine wpAny_bind (W.done s _ _ hst fun s' hm => ?_)
    show wpAny _ A.in1 (ret Value.none) _ _ s'
    have hkp' := keepM hm hkp
    exact wpAny_pure (hR s' L es ep t (hm.mono hsub) (keepS hm hkp' g.sub hS) g hkp')
  | succ k ih =>
    intro i s hk' hi hst hkp ⟨L, es, ep, t, hS, g⟩ hR
    have hlt : i < n := by omega
    refine codeAny_builtin F.entry_set_update_loop ?_
    rw [Around.under_plainId F.plain_set_update_loop _]
    show wpAny _ A.in1 (pyNext (.ref I) >>= _) _ _ s
    refine wpAny_bind (W.item i s _ _ hlt hst fun v s' hP hst' hm => ?_)
    obtain ⟨p, hp, rfl⟩ := hval i v hP
    have hkp' := keepM hm hkp
    have hS' := keepS hm hkp' g.sub hS
    have hx : IsK P w s'.heap p.2 p.1 := isK_keep (hk p (List.mem_of_getElem? hp)) hkp'
    show wpAny _ A.in1 (holding [Value.ref p.1] (setAdd Z (.ref p.1)) >>= _) _ _ s'
    refine wpAny_bind (wpAny_holding ?_)
    unfold setAdd
    refine wpAny_holding ?_
    refine wpAny_bind (wpAny_pyHash_tuple hu hx ?_)
    refine small_add (s := { s' with toks := s'.toks + (p.2.length + 1) }) hS' hx hu (by have := g.few; omega) fun b h' L' es' ep' t' hsb hS2 c1 c2 => ?_
    have g' : Has ks (i + 1) L' := g.step hp c1 c2
    have hkp2 : ∀ b o, h0.get? b = some o → h'.get? b = some o := fun b o e => (hsb.2 b (fun z => by rw [z, hS0] at e; cases e)).trans (hkp' b o e)
    refine wpAny_pure ⟨plainId_quiet F.plain_set_update_loop _, ih (i + 1) _ (by omega) hlt (W.frame _ s' _ _ hst' (Nat.le_add_right _ _) fun b hb o e => ?_) hkp2 ⟨L', es', ep', t', hS2, g'⟩ fun s'' L2 es2 ep2 t2 hm'' hS'' g'' hkp'' => ?_⟩
    · rw [hsb.2 b (fun h : b = Z => hSf (by rw [← h]; exact hb))]; exact e
    · refine hR s'' L2 es2 ep2 t2 (Moved.trans W.gtrans ((hm.mono hsub).then_heap (Nat.le_add_right _ _) fun b o hb e => ?_) hm'') hS'' g'' hkp''
      rw [hsb.2 b (fun h : b = Z => hb (by rw [h]; exact List.mem_cons_self))]; exact e
set_option maxHeartbeats 3200000 in
/-- set(xs), xs a tuple of at most four such tuples -/
theorem call_set_small {l : Addr} {items : Array Value} (ks : List (Addr × List Key)) {Q : Value → Shared → Prop} (hh : A.handled = none) (hl : s.heap.IsTuple l items) (hit : items.toList = ks.map fun p => Value.ref p.1)
    (hk : ∀ p ∈ ks, IsK P w s.heap p.2 p.1) (hfew : ks.length ≤ 4) (hu : A.units + 3 < cLine)
    (h : ∀ (h' : Heap) (tk : Nat) L es ep t, Small P w h' s.heap.objs.size L es ep t → Has ks ks.length L → (∀ b o, s.heap.get? b = some o → h'.get? b = some o) → Q (.ref s.heap.objs.size) { s with heap := h', toks := tk }) :
    wpAny (model P w) A (call (.type "set") [.ref l]) Q E s := by
  have hisz : items.size = ks.length := by
    have q := congrArg List.length hit
    rw [Array.length_toList, List.length_map] at q
    exact q
  obtain ⟨c, tl, hmro⟩ := F.called_set.mro
  have hmade := F.called_set.made
  have hsub := F.called_set.sub
  refine wpAny_call (codeAny_of_tree ?_)
  show wpAny _ _ (callAny (.type "set") _) _ _ _
  refine wpAny_pure ⟨Code.quiet_builtin _ (by decide +kernel), codeAny_builtin F.entry_type_call ?_⟩
  rw [Around.under_plain (weight_type_call_type "set" [.ref l] []) rfl]
  have h1 := F.called_set.notType
  have h2 := F.called_set.canCreate
  have hct := F.typeCall_set_1 (.ref l)
  repeat (any_goals (first | assumption | wp_step))
  refine codeAny_mono (code_set_led1 (.ref l) (E := E) (Q₁ := fun obj s₁ => obj = .ref s.heap.objs.size ∧ s₁ = { s with heap := s.heap.push { cls := .type "set", dict := none, data := .set #[] 0 (.fresh 0 0 (!w.params.followText "set-order")) } }) ⟨rfl, rfl⟩) fun r s₁ hr => ?_
  cases r with
  | error e => exact hr
  | ok fl =>
    cases fl with
    | ret obj =>
      obtain ⟨rfl, rfl⟩ := hr
      have hS : (s.heap.push { cls := .type "set", dict := none, data := .set #[] 0 (.fresh 0 0 (!w.params.followText "set-order")) }).get? s.heap.objs.size = some { cls := .type "set", dict := none, data := .set #[] 0 (.fresh 0 0 (!w.params.followText "set-order")) } := Heap.get?_push_size _ rfl
      have hT : Shared.TypeIs { s with heap := s.heap.push { cls := .type "set", dict := none, data := .set #[] 0 (.fresh 0 0 (!w.params.followText "set-order")) } } (.ref s.heap.objs.size) "set" := ⟨_, hS, rfl⟩
      have hli := F.called_set.init.lookup
      have hbi := F.called_set.init.bind (.ref s.heap.objs.size)
      repeat (any_goals (first | assumption | wp_step))
      refine codeAny_mono (codeAny_call_builtin (R := wants (fun r s₂ => r = .none ∧ ∃ h' tk L es ep t, s₂ = { s with heap := h', toks := tk } ∧ Small P w h' s.heap.objs.size L es ep t ∧ Has ks ks.length L ∧
          (∀ b o, s.heap.get? b = some o → h'.get? b = some o)) E) F.called_set.init.plain F.entry_set_init (check_set_init_1 hT ?_)) fun r₂ s₂ hr₂ => ?_
      · obtain ⟨ol, hol, hcl, nl, hdl⟩ := hl
        obtain ⟨ocls, odict, odata, oslots⟩ := ol
        simp only at hcl hdl
        subst hcl; subst hdl
        have hol' : (s.heap.push { cls := .type "set", dict := none, data := .set #[] 0 (.fresh 0 0 (!w.params.followText "set-order")) }).get? l = some { cls := .type "tuple", dict := odict, data := .seq items nl, slots := oslots } := Heap.get?_push_of_some _ hol
        have hsls := F.sub_tuple_set
        have hslf := F.sub_tuple_frozenset
        have hne : (Value.type "tuple" == Value.type "dict") = false := by decide
        have hl1 : (s.heap.push { cls := .type "set", dict := none, data := .set #[] 0 (.fresh 0 0 (!w.params.followText "set-order")) }).IsTuple l items := ⟨_, hol', rfl, nl, rfl⟩
        unfold Builtin.«set.__init__» noKeywords Builtin.Frozenset.updateFrom
        generalize hPI : pyIter = PI
        wp_walk
        subst hPI
        refine wpAny_pyIter_tuple hl1 ?_
        refine wpAny_bind (wpAny_runValue ?_)
        have hlS : l < s.heap.objs.size := Heap.lt_size hol
        have hh3 : A.in1.in1.in1.handled = none := by simp [hh]
        have hneI : l ≠ (s.heap.push { cls := .type "set", dict := none, data := .set #[] 0 (.fresh 0 0 (!w.params.followText "set-order")) }).objs.size := by
          rw [Heap.size_push]; exact Nat.ne_of_lt (Nat.lt_succ_of_lt hlS)
        have hSf : s.heap.objs.size ∉ [(s.heap.push { cls := .type "set", dict := none, data := .set #[] 0 (.fresh 0 0 (!w.params.followText "set-order")) }).objs.size, l] := by
          rw [Heap.size_push]; simp only [List.mem_cons, List.mem_singleton, List.not_mem_nil, or_false, not_or]
          exact ⟨Nat.ne_of_lt (Nat.lt_succ_self _), Nat.ne_of_gt hlS⟩
        have hval : ∀ (i : Nat) (v : Value), items[i]? = some v → ∃ p, ks[i]? = some p ∧ v = .ref p.1 := fun i v hv => by
          have q : items.toList[i]? = some v := by rw [Array.getElem?_toList]; exact hv
          rw [hit, List.getElem?_map] at q
          cases hq : ks[i]? with
          | none => rw [hq] at q; cases q
          | some p =>
            rw [hq] at q
            exact ⟨p, rfl, (Option.some.inj q).symm⟩
        have none_of : ∀ b, s.heap.objs.size ≤ b → s.heap.get? b = none := fun b hb => by
          cases q : s.heap.get? b with
          | none => rfl
          | some o => exact absurd (Nat.lt_of_lt_of_le (Heap.lt_size q) hb) (Nat.lt_irrefl _)
        refine small_loop ((Walks.tuple hh3 _ l hneI items).toS) s.heap.objs.size
          hSf ks hisz hfew hval s.heap hk (none_of _ (Nat.le_refl _)) (fun b hb => none_of b (by
            rw [List.mem_singleton.mp hb, Heap.size_push]
            exact Nat.le_succ _)) hu (items.size - 0) 0 _ (by omega) (Nat.zero_le _)
          ⟨⟨_, Heap.get?_push_size _ rfl, rfl, rfl⟩, (hl1.push _)⟩ (fun b o e => Heap.get?_push_of_some _ (Heap.get?_push_of_some _ e)) ?hS0 ?hR
        case hS0 => exact ⟨[], #[], 0, _, small_new (Heap.get?_push_of_some _ hS), Has.zero ks⟩
        case hR =>
          intro s' L es ep t hm hS' g' hkp
          obtain ⟨h', g2, d', tk', os'⟩ := s'
          have eg : g2 = s.gens := hm.gens
          have ed : d' = s.drawn := hm.drawn
          have eo : os' = s.os := hm.os
          subst eg; subst ed; subst eo
          show wpAny _ _ _ _ _ _
          refine wpAny_pure ?_
          show wpAny _ _ (ret Value.none) _ _ _
          rw [hisz] at g'
          exact wpAny_pure ⟨rfl, h', tk', L, es, ep, t, rfl, hS', g', hkp⟩
      · cases r₂ with
        | error e => exact hr₂
        | ok fl₂ =>
          cases fl₂ with
          | ret r =>
            obtain ⟨rfl, h', tk, L, es, ep, t, rfl, hS', g', hk'⟩ := hr₂
            repeat (any_goals (first | assumption | wp_step))
            exact h _ _ _ _ _ _ hS' g' hk'
          | _ => exact hr₂.elim
    | _ => exact hr.elim
end
theorem keys_vals {K : PySem.W.Frag} {H : Hp} : ∀ {ds : List D} {xs : List V} {k : List Key}, RpAll K H ds xs → ds.mapM keyO = some k → xs = k.map kV
  | [], xs, k, r, e => by
    cases e
    exact r
  | d :: ds, xs, k, r, e => by
    obtain ⟨v, r', rfl, h1, h2⟩ := r
    rw [List.mapM_cons] at e
    cases hd : keyO d with
    | none => rw [hd] at e; cases e
    | some a =>
      rw [hd] at e
      cases hr : ds.mapM keyO with
      | none => rw [hr] at e; cases e
      | some k' =>
        rw [hr] at e
        cases e
        rw [keys_vals h2 hr]
        cases d <;> simp only [keyO, Option.some.injEq, reduceCtorEq] at hd
        · subst hd; rw [show v = V.int _ from h1]; rfl
        · subst hd; rw [show v = V.str _ from h1]; rfl
theorem tups_of {K : PySem.W.Frag} {H : Hp} : ∀ {ds : List D} {xs : List V} {kk : List (List Key)}, RpAll K H ds xs → ds.mapM keysO = some kk → ∃ ps : List (Addr × List Key), ps.map (·.2) = kk ∧ xs = ps.map (fun p => V.ref p.1) ∧ ∀ p ∈ ps, SqT K H p.1 (p.2.map kV)
  | [], xs, kk, r, e => by
    cases e
    exact ⟨[], rfl, r, fun p h => by cases h⟩
  | d :: ds, xs, kk, r, e => by
    obtain ⟨v, r', rfl, h1, h2⟩ := r
    rw [List.mapM_cons] at e
    cases hd : keysO d with
    | none => rw [hd] at e; cases e
    | some a =>
      rw [hd] at e
      cases hr : ds.mapM keysO with
      | none => rw [hr] at e; cases e
      | some k' =>
        rw [hr] at e
        cases e
        obtain ⟨ps, e1, e2, e3⟩ := tups_of h2 hr
        cases d <;> simp only [keysO, reduceCtorEq] at hd
        obtain ⟨b, ys, rfl, q, rr⟩ := h1
        have := keys_vals rr hd
        subst this
        refine ⟨(b, a) :: ps, by rw [List.map_cons, e1], by rw [List.map_cons, e2], fun p hp => ?_⟩
        rcases List.mem_cons.mp hp with rfl | hp
        · exact q
        · exact e3 p hp
theorem refs_vals : ∀ {ps : List (Addr × List Key)} {us : List Value}, Vals (ps.map fun p => V.ref p.1) us → us = ps.map fun p => Value.ref p.1
  | [], _, .nil => rfl
  | p :: ps, _, .cons r t => by
    cases r
    rw [refs_vals t]
    rfl
theorem pd_lenSetR {X : Cx} {W : Wx} {k : Nat} {a : Expr} {f : En → Res D} {p p2 q pos : Pos} (hr : Room k X.A) (hm : X.mg "len" = none) (hm2 : X.mg "set" = none) (ha : PE X a (tD X.K W f)) (hg : Gl X "len" := by rfl) (hg2 : Gl X "set" := by rfl) (hc : X.calm = true := by rfl)
    (na : starEach [a] X.env = (false, eval a X.env) :: starEach [] X.env := by rfl) : PE X (.Call (.Name "len" p) [.Call (.Name "set" p2) [a] [] q] [] pos) (tD X.K W (uopF lenSetR f)) := by
  refine PE.weak (t := tUn (fun x H Q => ∃ (l : Addr) (ps : List (Addr × List Key)), x = .ref l ∧ SqT X.K H l (ps.map fun p => V.ref p.1) ∧ (∀ p ∈ ps, SqT X.K H p.1 (p.2.map kV)) ∧ ps.length ≤ 4 ∧ Q (.int ((addAll [] (ps.map (·.2))).length : Nat)) H) (tD X.K W f)) ?_ (tD_un fun x H Q d z r hz q => ?_)
  · refine ⟨fun pins s σ H Q I h => ?_⟩
    refine Call_ (ld_blt I hg hm boot_len ?_)
    refine PyProof.Rows.callWith_builtin1 (PyProof.Rows.args_cons ?_ rfl) rfl rfl
    refine Call_ (ld_blt I hg2 hm2 boot_set ?_)
    refine PyProof.Rows.callWith_type1 (PyProof.Rows.args_cons (thn (ha.run pins s σ H _ I h) fun v s1 ⟨x, H1, I1, r1, q1⟩ => PyProof.Rows.args_nil ?_) na) na rfl
    obtain ⟨l, ps, rfl, hq, hps, hl, q1⟩ := q1
    cases r1
    obtain ⟨its, r, pl, hz⟩ := I1.tuple hq
    have hits := refs_vals r
    refine call_set_small ps (I1.ok.hd hc) pl (by simpa using hits) (fun p hp => ?_) hl (by have := hr.un; omega) fun h' tk L es ep t hS g hk => ?_
    · obtain ⟨us, r2, ⟨o, ho, hcl, n, hd⟩, _⟩ := I1.tuple (hps p hp)
      exact ⟨o, us.toArray, n, ho, hcl, hd, items_are r2⟩
    · refine PyProof.Rows.args_nil ?_
      obtain ⟨o, ho, hex, hd⟩ := hS.ob
      have I2 : Inv X pins σ H1 { s1 with heap := h', toks := tk } := I1.kept fun b o e => hk b o e
      have hsz : es.size = (addAll [] (ps.map (·.2))).length := by
        rw [hS.size, g.len, List.take_of_length_le (by simp)]
      exact call_len_set ho hex hd hS.fits (by rw [hS.size]; have := hS.few; omega) ⟨.int _, H1, I2.tok _, ⟨_, by rw [hsz]⟩, q1⟩
  · unfold lenSetR at hz
    split at hz
    · rename_i ds
      split at hz
      · rename_i kk hkk
        split at hz
        · rename_i hl
          cases hz
          obtain ⟨b, ys, rfl, q2, rr⟩ := r
          obtain ⟨ps, e1, e2, e3⟩ := tups_of rr hkk
          subst e1
          subst e2
          exact ⟨b, ps, rfl, q2, e3, by simpa using hl, q _ H (Same.refl H) rfl⟩
        · cases hz
      · cases hz
    · cases hz
end FM

set_option Elab.async false
set_option linter.all false
set_option maxRecDepth 100000
/-! FMS: the readings opened by simp. -/
namespace FM
open PySem PyProof.Rows L2
section
variable {α : Type} {e : En} {d x y z : D} {ds : List D} {f g h fa fb fc : En → Res D} {fs : En → Res (List D)} {t u : En → Res Bool} {i j : Nat}
@[simp] theorem cD_ap : cD d e = .ok d := rfl
@[simp] theorem yesF_ap : yesF e = .ok true := rfl
@[simp] theorem nilF_ap : nilF e = .ok [] := rfl
@[simp] theorem nilS_ap : nilS e = .ok (.nx e) := rfl
@[simp] theorem noP_ap : noP e = .ok none := rfl
@[simp] theorem consF_ap : consF f fs e = rb (f e) fun d => rb (fs e) fun ds => .ok (d :: ds) := rfl
@[simp] theorem bopF_ap {g : D → D → Option D} : bopF g fa fb e = rb (fa e) fun x => rb (fb e) fun y => ofO (g x y) := rfl
@[simp] theorem bopN_ap {g : D → D → Option (List D)} : bopN g fa fb e = rb (fa e) fun x => rb (fb e) fun y => ofO (g x y) := rfl
@[simp] theorem bopS_ap {g : D → D → Option D} : bopS g fa fb e = rb (fa e) fun x => if isS x then rb (fb e) fun y => ofO (g x y) else .bad := rfl
@[simp] theorem uopF_ap {g : D → Option D} : uopF g fa e = rb (fa e) fun x => ofO (g x) := rfl
@[simp] theorem callF_ap {g : List D → Option α} : callF g fs e = rb (fs e) fun ds => ofO (g ds) := rfl
@[simp] theorem fnF_ap {n : Nat} {g : List D → Res α} : fnF n g fs e = rb (fs e) fun ds => if ds.length = n then noX (g ds) else .bad := rfl
@[simp] theorem mkL_ap : mkL fs e = rb (fs e) fun ds => .ok (.lst ds) := rfl
theorem sizes {n : Nat} (h : n ≤ 1000000) : n ≤ sizeLine := by rw [sizeLine_eq]; omega
@[simp] theorem tupF_ap : tupF fs e = rb (fs e) fun ds => ofO (if ds.length ≤ sizeLine then some (.tup ds) else none) := rfl
@[simp] theorem lstF_ap : lstF fs e = rb (fs e) fun ds => ofO (if ds.length ≤ sizeLine then some ds else none) := rfl
@[simp] theorem tstF_ap : tstF f e = rb (f e) isBl := rfl
@[simp] theorem truF_ap : truF f e = rb (f e) truD := rfl
@[simp] theorem notF_ap : notF t e = rb (t e) fun b => .ok (!b) := rfl
@[simp] theorem andF_ap : andF t u e = rb (t e) fun b => if b then u e else .ok false := rfl
@[simp] theorem orF_ap : orF t u e = rb (t e) fun b => if b then .ok true else u e := rfl
@[simp] theorem notV_ap : notV f e = rb (f e) fun d => rb (isBl d) fun b => .ok (.bl (!b)) := rfl
@[simp] theorem andV_ap : andV f g e = rb (f e) fun d => rb (isBl d) fun b => if b then g e else .ok (.bl false) := rfl
@[simp] theorem orV_ap : orV f g e = rb (f e) fun d => rb (isBl d) fun b => if b then .ok (.bl true) else g e := rfl
@[simp] theorem ifF_ap {f g : En → Res α} : ifF t f g e = rb (t e) fun b => if b then f e else g e := rfl
@[simp] theorem chF_ap {k k' : D → D → Option D} : chF k k' fa fb fc e = rb (fa e) fun x => rb (fb e) fun y => rb (ofO (k x y)) fun z => rb (isBl z) fun b => if b then rb (fc e) fun w => ofO (k' y w) else .ok (.bl false) := rfl
@[simp] theorem soP_ap : soP f e = rb (f e) intO := rfl
@[simp] theorem slF_ap {k : D → Option Int → Option Int → Option α} {p q : En → Res (Option Int)} : slF k f p q e = rb (f e) fun d => rb (p e) fun lo => rb (q e) fun hi => ofO (k d lo hi) := rfl
@[simp] theorem itF_ap {k : α → Res (List D)} {f : En → Res α} : itF k f e = rb (f e) k := rfl
@[simp] theorem lfG_ap {k : D → Res (List D)} : lfG k f e = rb (f e) fun d => if d.lf || noOwn e then k d else .bad := rfl
@[simp] theorem newG_ap : newG fs e = rb (fs e) fun xs => if lfAll xs || noOwn e then .ok xs else .bad := rfl
@[simp] theorem isBl_ap {b : Bool} : isBl (.bl b) = .ok b := rfl
@[simp] theorem intO_ap {i : Int} : intO (.int i) = .ok (some i) := rfl
@[simp] theorem asLst_ap : asLst (.lst ds) = .ok ds := rfl
@[simp] theorem asTup_ap : asTup (.tup ds) = .ok ds := rfl
@[simp] theorem asStr_ap {l : List Nat} : asStr (.str l) = .ok (chD l) := rfl
@[simp] theorem retS_ap : retS f e = rb (f e) fun d => .ok (.rt d) := rfl
@[simp] theorem retN_ap : retN fs e = rb (fs e) fun d => .ok (.rl d) := rfl
theorem seqS_ap {F G : En → Res Fl} : seqS F G e = rb (F e) fun fl => match fl with | .nx e1 => G e1 | fl => .ok fl := rfl
theorem seqS_nx {F G : En → Res Fl} {e1 : En} (h : F e = .ok (.nx e1)) : seqS F G e = G e1 := by simp [seqS_ap, h]
theorem seqS_rt {F G : En → Res Fl} (h : F e = .ok (.rt d)) : seqS F G e = .ok (.rt d) := by simp [seqS_ap, h]
theorem seqS_rl {F G : En → Res Fl} (h : F e = .ok (.rl ds)) : seqS F G e = .ok (.rl ds) := by simp [seqS_ap, h]
@[simp] theorem ifS_ap {F G : En → Res Fl} : ifS t F G e = rb (t e) fun b => if b then F e else G e := rfl
@[simp] theorem asgS_ap {t : Tg} : asgS t f e = rb (f e) fun d => nxS (setT t d e) := rfl
@[simp] theorem nxS_ok : nxS (.ok e) = .ok (.nx e) := rfl
@[simp] theorem asgL_ap : asgL i fs e = rb (fs e) fun xs => if lfAll xs || noOwn e then .ok (.nx (e.set i (.dat (.lst xs)))) else .bad := rfl
@[simp] theorem asgO_ap : asgO i fs e = rb (fs e) fun xs => if lfAll xs || noOwn e then .ok (.nx (e.set i (.own xs))) else .bad := rfl
@[simp] theorem setT_nm : setT (.nm i) d e = setN i d e := by simp [setT]
@[simp] theorem forS_ap {fi : En → Res (List D)} {t : Tg} {B : En → Res Fl} : forS fi t B e = rb (fi e) fun items => forF t B items e := rfl
@[simp] theorem parS_ap : parS i j fs e = rb (fs e) fun ds => match ds with | [d, d'] => rb (setN i d e) fun e1 => nxS (setN j d' e1) | _ => .bad := rfl
@[simp] theorem lf_non : D.lf .non = true := by simp [D.lf]
@[simp] theorem lf_bl {b : Bool} : D.lf (.bl b) = true := by simp [D.lf]
@[simp] theorem lf_int {i : Int} : D.lf (.int i) = true := by simp [D.lf]
@[simp] theorem lf_str {l : List Nat} : D.lf (.str l) = true := by simp [D.lf]
@[simp] theorem lf_tup : D.lf (.tup ds) = lfAll ds := by simp [D.lf]
@[simp] theorem lf_lst : D.lf (.lst ds) = false := by simp [D.lf]
@[simp] theorem lfAll_nil : lfAll [] = true := by simp [lfAll]
@[simp] theorem lfAll_cons : lfAll (d :: ds) = (d.lf && lfAll ds) := by simp [lfAll]
@[simp] theorem noOwn_nil : noOwn [] = true := rfl
@[simp] theorem noOwn_dat : noOwn (.dat d :: e) = noOwn e := by simp [noOwn, Sl.isOwn]
@[simp] theorem noOwn_un : noOwn (.un :: e) = noOwn e := by simp [noOwn, Sl.isOwn]
@[simp] theorem noOwn_own : noOwn (.own ds :: e) = false := by simp [noOwn, Sl.isOwn]
@[simp] theorem getE_dat : getE 0 (.dat d :: e) = .ok d := rfl
@[simp] theorem getE_own : getE 0 (.own ds :: e) = .ok (.lst ds) := rfl
@[simp] theorem getE_succ {s : Sl} : getE (i + 1) (s :: e) = getE i e := by simp [getE]
@[simp] theorem getE_1 {s : Sl} : getE 1 (s :: e) = getE 0 e := getE_succ (i := 0)
@[simp] theorem getE_2 {s : Sl} : getE 2 (s :: e) = getE 1 e := getE_succ (i := 1)
@[simp] theorem getE_3 {s : Sl} : getE 3 (s :: e) = getE 2 e := getE_succ (i := 2)
@[simp] theorem getE_4 {s : Sl} : getE 4 (s :: e) = getE 3 e := getE_succ (i := 3)
@[simp] theorem getE_5 {s : Sl} : getE 5 (s :: e) = getE 4 e := getE_succ (i := 4)
@[simp] theorem getE_6 {s : Sl} : getE 6 (s :: e) = getE 5 e := getE_succ (i := 5)
@[simp] theorem getE_7 {s : Sl} : getE 7 (s :: e) = getE 6 e := getE_succ (i := 6)
@[simp] theorem getE_8 {s : Sl} : getE 8 (s :: e) = getE 7 e := getE_succ (i := 7)
@[simp] theorem getE_9 {s : Sl} : getE 9 (s :: e) = getE 8 e := getE_succ (i := 8)
@[simp] theorem getE_10 {s : Sl} : getE 10 (s :: e) = getE 9 e := getE_succ (i := 9)
@[simp] theorem getE_11 {s : Sl} : getE 11 (s :: e) = getE 10 e := getE_succ (i := 10)
@[simp] theorem getE_12 {s : Sl} : getE 12 (s :: e) = getE 11 e := getE_succ (i := 11)
@[simp] theorem getE_13 {s : Sl} : getE 13 (s :: e) = getE 12 e := getE_succ (i := 12)
@[simp] theorem getE_14 {s : Sl} : getE 14 (s :: e) = getE 13 e := getE_succ (i := 13)
@[simp] theorem getE_15 {s : Sl} : getE 15 (s :: e) = getE 14 e := getE_succ (i := 14)
@[simp] theorem getE_16 {s : Sl} : getE 16 (s :: e) = getE 15 e := getE_succ (i := 15)
@[simp] theorem getE_17 {s : Sl} : getE 17 (s :: e) = getE 16 e := getE_succ (i := 16)
@[simp] theorem getE_18 {s : Sl} : getE 18 (s :: e) = getE 17 e := getE_succ (i := 17)
@[simp] theorem getE_19 {s : Sl} : getE 19 (s :: e) = getE 18 e := getE_succ (i := 18)
@[simp] theorem getE_20 {s : Sl} : getE 20 (s :: e) = getE 19 e := getE_succ (i := 19)
@[simp] theorem initE_nil (n : Nat) : initE n [] = List.replicate n .un := by simp [initE]
@[simp] theorem initE_cons (n : Nat) : initE (n + 1) (d :: ds) = .dat d :: initE n ds := by simp [initE, Nat.add_sub_add_right]
@[simp] theorem truD_bl {b : Bool} : truD (.bl b) = .ok b := rfl
@[simp] theorem truD_tup : truD (.tup ds) = .ok (!ds.isEmpty) := rfl
@[simp] theorem truD_lst : truD (.lst ds) = .ok (!ds.isEmpty) := rfl
@[simp] theorem wipeE_nil : wipeE e [] = e := rfl
@[simp] theorem wipeE_cons {v : Nat} {vs : List Nat} : wipeE e (v :: vs) = (wipeE e vs).set v .un := rfl
@[simp] theorem addO_ii {i j : Int} : addO (.int i) (.int j) = some (.int (i + j)) := rfl
@[simp] theorem subI_ii {i j : Int} : subI (.int i) (.int j) = some (.int (i - j)) := rfl
theorem addO_ss {a b : List Nat} (h : a.length + b.length ≤ sizeLine) : addO (.str a) (.str b) = some (.str (a ++ b)) := by simp [addO, addI, addS, h]
theorem addO_tt {a b : List D} (h : a.length + b.length ≤ sizeLine) : addO (.tup a) (.tup b) = some (.tup (a ++ b)) := by simp [addO, addI, addS, addT, h]
@[simp] theorem ltO_ii {i j : Int} : ltO (.int i) (.int j) = some (.bl (decide (i < j))) := rfl
@[simp] theorem leO_ii {i j : Int} : leO (.int i) (.int j) = some (.bl (decide (i ≤ j))) := rfl
@[simp] theorem gtO_ii {i j : Int} : gtO (.int i) (.int j) = some (.bl (decide (j < i))) := rfl
@[simp] theorem geO_ii {i j : Int} : geO (.int i) (.int j) = some (.bl (decide (j ≤ i))) := rfl
@[simp] theorem leO_11 {a b : Nat} : leO (.str [a]) (.str [b]) = some (.bl (decide (a ≤ b))) := by
  have h : ([b] < [a]) ↔ b < a := by
    rw [List.cons_lt_cons_iff]
    simp
  have e : (!decide ([b] < [a])) = decide (a ≤ b) := by
    rw [Bool.eq_iff_iff]
    simp only [Bool.not_eq_true', decide_eq_false_iff_not, decide_eq_true_eq, h]
    omega
  show some (D.bl (!decide ([b] < [a]))) = _
  rw [e]
@[simp] theorem eqO_ii {i j : Int} : eqO (.int i) (.int j) = some (.bl (i == j)) := by simp [eqO, eqB, scalD, eqv]
@[simp] theorem eqO_ss {a b : List Nat} : eqO (.str a) (.str b) = some (.bl (a == b)) := by simp [eqO, eqB, scalD, eqv]
@[simp] theorem neO_ii {i j : Int} : neO (.int i) (.int j) = some (.bl (!(i == j))) := by simp [neO, eqB, scalD, eqv]
@[simp] theorem neO_ss {a b : List Nat} : neO (.str a) (.str b) = some (.bl (!(a == b))) := by simp [neO, eqB, scalD, eqv]
@[simp] theorem isO_bb {a b : Bool} : isO (.bl a) (.bl b) = some (.bl (decide (a = b))) := rfl
@[simp] theorem isnO_bb {a b : Bool} : isnO (.bl a) (.bl b) = some (.bl (!decide (a = b))) := rfl
@[simp] theorem lenO_tup : lenO [.tup ds] = some (.int (ds.length : Nat)) := rfl
@[simp] theorem lenO_lst : lenO [.lst ds] = some (.int (ds.length : Nat)) := rfl
theorem lenO_str {l : List Nat} (h : l.length ≤ sizeLine) : lenO [.str l] = some (.int (l.length : Nat)) := by simp [lenO, h]
@[simp] theorem modI_ii {i j : Int} : modI (.int i) (.int j) = if 0 < j then some (.int (i % j)) else none := rfl
@[simp] theorem mulI_ii {i j : Int} : mulI (.int i) (.int j) = if (i.natAbs < 2 ^ 64 ∨ j.natAbs < 2 ^ 64) then some (.int (i * j)) else none := rfl
@[simp] theorem tupleO_lst : tupleO [.lst ds] = some (.tup ds) := rfl
@[simp] theorem tupleO_tup : tupleO [.tup ds] = some (.tup ds) := rfl
@[simp] theorem listO_lst : listO [.lst ds] = some ds := rfl
@[simp] theorem listO_tup : listO [.tup ds] = some ds := rfl
@[simp] theorem negI_i {i : Int} : negI (.int i) = some (.int (-i)) := rfl
@[simp] theorem ixO_tup {i : Int} : ixO (.tup ds) (.int i) = atI ds i := rfl
@[simp] theorem ixO_lst {i : Int} : ixO (.lst ds) (.int i) = atI ds i := rfl
theorem ixO_str {l : List Nat} {i : Int} (h : l.length ≤ sizeLine) : ixO (.str l) (.int i) = (atI l i).map fun c => .str [c] := by simp [ixO, h]
@[simp] theorem slO_tup {lo hi : Option Int} : slO (.tup ds) lo hi = some (.tup (cutL ds lo hi)) := rfl
theorem slO_str {l : List Nat} {lo hi : Option Int} (h : l.length ≤ sizeLine) : slO (.str l) lo hi = some (.str (cutL l lo hi)) := by simp [slO, h]
theorem setN_lf (h : d.lf = true) : setN i d e = .ok (e.set i (.dat d)) := by simp [setN, h]
theorem setN_no (h : noOwn e = true) : setN i d e = .ok (e.set i (.dat d)) := by simp [setN, h]
@[simp] theorem atI_0 {α : Type} {x : α} {l : List α} : atI (x :: l) 0 = some x := by simp [atI, ixN]
theorem atI_n {α : Type} {l : List α} {i : Nat} {x : α} (h : l[i]? = some x) : atI l ((i : Nat) : Int) = some x := atI_nat h
theorem forF_nil {t : Tg} {B : En → Res Fl} : forF t B [] e = .ok (.nx e) := rfl
theorem forF_cons {t : Tg} {B : En → Res Fl} : forF t B (d :: ds) e = rb (setT t d e) fun e1 => rb (B e1) fun fl => match fl with | .nx e2 => forF t B ds e2 | fl => .ok fl := rfl
/-- a comprehension that maps -/
theorem lcF_map {t : Tg} {te : En → Res D} {e : En} {g : D → D} : ∀ {items : List D}, (∀ d ∈ items, ∃ e1, setT t d e = .ok e1 ∧ te e1 = .ok (g d) ∧ (g d).lf = true) → lcF t yesF te e items = .ok (items.map g)
  | [], _ => rfl
  | d :: r, h => by
    obtain ⟨e1, h1, h2, h3⟩ := h d (by simp)
    have ih := lcF_map (items := r) fun d hd => h d (by simp [hd])
    simp only [lcF, h1, rb_ok, yesF, if_true, h2, h3, ih, List.map_cons]
/-- .. that filters and maps -/
theorem lcF_filter {t : Tg} {tt : En → Res Bool} {te : En → Res D} {e : En} {p : D → Bool} {g : D → D} : ∀ {items : List D}, (∀ d ∈ items, ∃ e1, setT t d e = .ok e1 ∧ tt e1 = .ok (p d) ∧ (p d = true → te e1 = .ok (g d) ∧ (g d).lf = true)) →
    lcF t tt te e items = .ok ((items.filter p).map g)
  | [], _ => rfl
  | d :: r, h => by
    obtain ⟨e1, h1, h2, h3⟩ := h d (by simp)
    have ih := lcF_filter (items := r) (tt := tt) (te := te) (p := p) (g := g) fun d hd => h d (by simp [hd])
    simp only [lcF, h1, rb_ok, h2]
    cases hp : p d with
    | false => simp [hp, ih]
    | true =>
      obtain ⟨h4, h5⟩ := h3 hp
      simp [hp, h4, h5, ih]
theorem compF_ok {vs : List Nat} {fi : En → Res (List D)} {t : Tg} {tt : En → Res Bool} {te : En → Res D} {items zs : List D} (h1 : fi e = .ok items) (h2 : items.length ≤ sizeLine) (h3 : lcF t tt te (wipeE e vs) items = .ok zs) : compF vs fi t tt te e = .ok zs := by
  unfold compF
  rw [h1, rb_ok, if_pos h2, h3]
  rfl
theorem blsO_map {α : Type} (f : α → Bool) : ∀ l : List α, blsO (l.map fun x => .bl (f x)) = some (l.map f)
  | [] => rfl
  | x :: r => by simp only [List.map_cons, blsO, blsO_map f r]; rfl
end
end FM

set_option Elab.async false
set_option linter.all false
set_option maxRecDepth 100000
namespace FM
open PySem PySem.Spec PyProof.Rows L2
def tSmall : List Nat := [97, 98, 99, 100, 101, 102, 103, 104, 105, 106, 107, 108, 109, 110, 111, 112, 113, 114, 115, 116, 117, 118, 119, 120, 121, 122]
def tGreat : List Nat := [65, 66, 67, 68, 69, 70, 71, 72, 73, 74, 75, 76, 77, 78, 79, 80, 81, 82, 83, 84, 85, 86, 87, 88, 89, 90]
def tLetters : List Nat := [97, 98, 99, 100, 101, 102, 103, 104, 105, 106, 107, 108, 109, 110, 111, 112, 113, 114, 115, 116, 117, 118, 119, 120, 121, 122, 65, 66, 67, 68, 69, 70, 71, 72, 73, 74, 75, 76, 77, 78, 79, 80, 81, 82, 83, 84, 85, 86, 87, 88, 89, 90]
def tBlankLetters : List Nat := [32, 97, 98, 99, 100, 101, 102, 103, 104, 105, 106, 107, 108, 109, 110, 111, 112, 113, 114, 115, 116, 117, 118, 119, 120, 121, 122, 65, 66, 67, 68, 69, 70, 71, 72, 73, 74, 75, 76, 77, 78, 79, 80, 81, 82, 83, 84, 85, 86, 87, 88, 89, 90]
def tSigns : List Nat := [32, 33, 34, 35, 36, 38, 39, 40, 41, 42, 43, 44, 45, 46, 47, 48, 49, 50, 51, 52, 53, 54, 55, 56, 57, 58, 59, 60, 61, 62, 63, 64, 65, 66, 67, 68, 69, 70, 71, 72, 73, 74, 75, 76, 77, 78, 79, 80, 81, 82, 83, 84, 85, 86, 87, 88, 89, 90, 91, 92, 93, 94, 95, 96, 97, 98, 99, 100, 101, 102, 103, 104, 105, 106, 107, 108, 109, 110, 111, 112, 113, 114, 115, 116, 117, 118, 119, 120, 121, 122, 123, 124, 125, 126]
def wTwice : List Nat := [116, 119, 105, 99, 101]
def wBlanks : List Nat := [98, 108, 97, 110, 107, 115]
def wGreat : List Nat := [103, 114, 101, 97, 116]
def wWord : List Nat := [119, 111, 114, 100]
def wLong : List Nat := [108, 111, 110, 103]
def wSign : List Nat := [115, 105, 103, 110]
def wTeh : List Nat := [116, 101, 104]
def wThe : List Nat := [116, 104, 101]
def wTHe : List Nat := [84, 104, 101]
def wTheB : List Nat := [116, 104, 101, 32]
def wBTeh : List Nat := [32, 116, 101, 104]
def wNoSpot : List Nat := [110, 111, 32, 115, 112, 111, 116]
def wNoMark : List Nat := [110, 111, 32, 109, 97, 114, 107]
def wNoMend : List Nat := [110, 111, 32, 109, 101, 110, 100]
def wNoStep : List Nat := [110, 111, 32, 115, 116, 101, 112]
def wWrong : List Nat := [119, 114, 111, 110, 103]
def wEdit : List Nat := [101, 100, 105, 116]
def wMend : List Nat := [109, 101, 110, 100]
def wMendAll : List Nat := [109, 101, 110, 100, 95, 97, 108, 108]
def wPassOnce : List Nat := [112, 97, 115, 115, 95, 111, 110, 99, 101]
def wPassAlways : List Nat := [112, 97, 115, 115, 95, 97, 108, 119, 97, 121, 115]
def wAgain : List Nat := [97, 103, 97, 105, 110]
def wBack : List Nat := [98, 97, 99, 107]
def wForth : List Nat := [102, 111, 114, 116, 104]
def wText : List Nat := [116, 101, 120, 116]
def wRules : List Nat := [114, 117, 108, 101, 115]
def wOnce : List Nat := [111, 110, 99, 101]
def wAlways : List Nat := [97, 108, 119, 97, 121, 115]
def wPast : List Nat := [112, 97, 115, 116]
def wLater : List Nat := [108, 97, 116, 101, 114]
end FM

set_option Elab.async false
set_option linter.all false
set_option maxRecDepth 100000
namespace FM
open PySem PySem.Spec PyProof.Rows L2
/-- is_small_word -/
noncomputable def B_is_small_word : En → Res Fl := (retS (andV (uopF (isiO "str") (getE 0)) (andV (chF leO leO (getE 1) (callF lenO (consF (getE 0) nilF)) (cD (.int 6))) (callF allO (consF (mkL (compF [2] (itF asStr (getE 0)) (.nm 2) yesF (bopF inO (getE 2) (cD (.str tSmall))))) nilF)))))
noncomputable def f_is_small_word : List D → Res D := runD 3 B_is_small_word
/-- is_sign -/
noncomputable def B_is_sign : En → Res Fl := (retS (andV (uopF (isiO "str") (getE 0)) (andV (bopF eqO (callF lenO (consF (getE 0) nilF)) (cD (.int 1))) (andV (chF leO leO (cD (.str [33])) (getE 0) (cD (.str [126]))) (bopF ninO (getE 0) (bopF addO (cD (.str tSmall)) (cD (.str tGreat))))))))
noncomputable def f_is_sign : List D → Res D := runD 1 B_is_sign
/-- is_rule -/
noncomputable def B_is_rule : En → Res Fl := (seqS (ifS (orF (notF (truF (uopF (isiO "tuple") (getE 0)))) (orF (notF (truF (getE 0))) (notF (truF (uopF (isiO "str") (bopF ixO (getE 0) (cD (.int 0)))))))) (retS (cD (.bl false))) nilS)
  (seqS (parS 1 2 (consF (bopF ixO (getE 0) (cD (.int 0))) (consF (slF slO (getE 0) (soP (cD (.int 1))) noP) nilF)))
  (seqS (ifS (tstF (bopF inO (getE 1) (tupF (consF (cD (.str wTwice)) (consF (cD (.str wBlanks)) (consF (cD (.str wGreat)) nilF)))))) (retS (bopF eqO (callF lenO (consF (getE 2) nilF)) (cD (.int 0)))) nilS)
  (seqS (ifS (tstF (bopF eqO (getE 1) (cD (.str wWord)))) (retS (andV (bopF eqO (callF lenO (consF (getE 2) nilF)) (cD (.int 2))) (andV (fnF 2 f_is_small_word (consF (bopF ixO (getE 2) (cD (.int 0))) (consF (cD (.int 1)) nilF))) (fnF 2 f_is_small_word (consF (bopF ixO (getE 2) (cD (.int 1))) (consF (cD (.int 0)) nilF)))))) nilS)
  (seqS (ifS (tstF (bopF eqO (getE 1) (cD (.str wLong)))) (retS (andV (bopF eqO (callF lenO (consF (getE 2) nilF)) (cD (.int 1))) (andV (uopF (isiO "int") (bopF ixO (getE 2) (cD (.int 0)))) (andV (notV (uopF (isiO "bool") (bopF ixO (getE 2) (cD (.int 0))))) (chF leO leO (cD (.int 1)) (bopF ixO (getE 2) (cD (.int 0))) (cD (.int 9))))))) nilS)
  (retS (andV (bopF eqO (getE 1) (cD (.str wSign))) (andV (bopF eqO (callF lenO (consF (getE 2) nilF)) (cD (.int 1))) (fnF 1 f_is_sign (consF (bopF ixO (getE 2) (cD (.int 0))) nilF))))))))))
noncomputable def f_is_rule : List D → Res D := runD 3 B_is_rule
/-- are_rules -/
noncomputable def B_are_rules : En → Res Fl := (seqS (ifS (orF (notF (truF (uopF (isiO "tuple") (getE 0)))) (orF (notF (tstF (chF leO leO (cD (.int 1)) (callF lenO (consF (getE 0) nilF)) (cD (.int 4))))) (notF (truF (callF allO (consF (mkL (compF [1] (itF asTup (getE 0)) (.nm 1) yesF (fnF 1 f_is_rule (consF (getE 1) nilF)))) nilF)))))) (retS (cD (.bl false))) nilS)
  (retS (bopF eqO (uopF lenSetR (getE 0)) (callF lenO (consF (getE 0) nilF)))))
noncomputable def f_are_rules : List D → Res D := runD 2 B_are_rules
/-- _law_cell -/
noncomputable def B_law_cell : En → Res Fl := (seqS (ifS (tstF (bopF ltO (getE 1) (callF lenO (consF (getE 0) nilF)))) (retS (bopF ixO (getE 0) (getE 1))) nilS)
  (retS (cD (.int 0))))
noncomputable def f_law_cell : List D → Res D := runD 2 B_law_cell
/-- _law_mix -/
noncomputable def B_law_mix : En → Res Fl := (seqS (asgS (.nm 3) (bopF modI (bopF mulI (getE 0) (cD (.int 48271))) (getE 1)))
  (retS (bopF modI (bopF modI (bopF mulI (getE 3) (bopF addO (getE 3) (cD (.int 7)))) (getE 1)) (getE 2))))
noncomputable def f_law_mix : List D → Res D := runD 4 B_law_mix
/-- _law_signs -/
noncomputable def B_law_signs : En → Res Fl := (retS (cD (.str tSigns)))
noncomputable def f_law_signs : List D → Res D := runD 0 B_law_signs
/-- _law_letters -/
noncomputable def B_law_letters : En → Res Fl := (seqS (asgS (.nm 2) (cD (.str tLetters)))
  (retS (bopS joinO (cD (.str [])) (mkL (compF [3] (itF asRng1 (consF (getE 1) nilF)) (.nm 3) yesF (bopF ixO (getE 2) (fnF 3 f_law_mix (consF (bopF addO (getE 0) (bopF mulI (cD (.int 7)) (getE 3))) (consF (cD (.int 9973)) (consF (cD (.int 52)) nilF))))))))))
noncomputable def f_law_letters : List D → Res D := runD 4 B_law_letters
/-- _law_rule -/
noncomputable def B_law_rule : En → Res Fl := (seqS (asgL 1 (compF [4] (itF asStr (fnF 0 f_law_signs nilF)) (.nm 4) (tstF (bopF ninO (getE 4) (cD (.str tBlankLetters)))) (getE 4)))
  (seqS (asgS (.nm 2) (fnF 3 f_law_mix (consF (getE 0) (consF (cD (.int 9923)) (consF (cD (.int 6)) nilF)))))
  (seqS (ifS (tstF (bopF eqO (getE 2) (cD (.int 0)))) (seqS (asgS (.nm 3) (bopF ixO (tupF (consF (cD (.str [97])) (consF (cD (.str wTeh)) (consF (cD (.str wThe)) (consF (uopF lowO (fnF 2 f_law_letters (consF (getE 0) (consF (bopF addO (cD (.int 1)) (fnF 3 f_law_mix (consF (getE 0) (consF (cD (.int 9907)) (consF (cD (.int 6)) nilF))))) nilF)))) nilF))))) (fnF 3 f_law_mix (consF (getE 0) (consF (cD (.int 9901)) (consF (cD (.int 4)) nilF))))))
  (retS (tupF (consF (cD (.str wWord)) (consF (getE 3) (consF (bopF ixO (tupF (consF (cD (.str [])) (consF (cD (.str [97])) (consF (cD (.str wThe)) (consF (uopF lowO (fnF 2 f_law_letters (consF (bopF addO (getE 0) (cD (.int 1))) (consF (cD (.int 6)) nilF)))) nilF))))) (fnF 3 f_law_mix (consF (getE 0) (consF (cD (.int 9887)) (consF (cD (.int 4)) nilF))))) nilF)))))) nilS)
  (seqS (ifS (tstF (bopF eqO (getE 2) (cD (.int 1)))) (retS (tupF (consF (cD (.str wLong)) (consF (bopF addO (cD (.int 1)) (fnF 3 f_law_mix (consF (getE 0) (consF (cD (.int 9883)) (consF (cD (.int 9)) nilF))))) nilF)))) nilS)
  (seqS (ifS (tstF (bopF eqO (getE 2) (cD (.int 2)))) (retS (tupF (consF (cD (.str wSign)) (consF (bopF ixO (tupF (consF (cD (.str [33])) (consF (cD (.str [46])) (consF (bopF ixO (getE 1) (fnF 3 f_law_mix (consF (getE 0) (consF (cD (.int 9871)) (consF (callF lenO (consF (getE 1) nilF)) nilF))))) nilF)))) (fnF 3 f_law_mix (consF (getE 0) (consF (cD (.int 9859)) (consF (cD (.int 3)) nilF))))) nilF)))) nilS)
  (retS (bopF ixO (tupF (consF (tupF (consF (cD (.str wTwice)) nilF)) (consF (tupF (consF (cD (.str wBlanks)) nilF)) (consF (tupF (consF (cD (.str wGreat)) nilF)) nilF)))) (bopF subI (getE 2) (cD (.int 3))))))))))
noncomputable def f_law_rule : List D → Res D := runD 5 B_law_rule
/-- _law_rules -/
noncomputable def B_law_rules : En → Res Fl := (seqS (asgS (.nm 1) (tupF nilF))
  (seqS (forS (itF asRng1 (consF (bopF addO (cD (.int 1)) (fnF 3 f_law_mix (consF (getE 0) (consF (cD (.int 9857)) (consF (cD (.int 4)) nilF))))) nilF)) (.nm 2)
    (seqS (asgS (.nm 3) (fnF 1 f_law_rule (consF (bopF addO (getE 0) (bopF mulI (cD (.int 19)) (getE 2))) nilF)))
  (ifS (tstF (bopF ninO (getE 3) (getE 1))) (asgS (.nm 1) (bopF addO (getE 1) (tupF (consF (getE 3) nilF)))) nilS)))
  (retS (getE 1))))
noncomputable def f_law_rules : List D → Res D := runD 4 B_law_rules
/-- _law_is_small -/
noncomputable def B_law_is_small : En → Res Fl := (seqS (ifS (orF (notF (truF (uopF (isiO "str") (getE 0)))) (orF (tstF (bopF ltO (callF lenO (consF (getE 0) nilF)) (getE 1))) (tstF (bopF gtO (callF lenO (consF (getE 0) nilF)) (cD (.int 6)))))) (retS (cD (.bl false))) nilS)
  (retS (bopF eqO (mkL (compF [2] (itF asStr (getE 0)) (.nm 2) (notF (tstF (chF leO leO (cD (.str [97])) (getE 2) (cD (.str [122]))))) (getE 2))) (mkL (lstF nilF)))))
noncomputable def f_law_is_small : List D → Res D := runD 3 B_law_is_small
/-- _law_is_rule -/
noncomputable def B_law_is_rule : En → Res Fl := (seqS (ifS (orF (notF (truF (uopF (isiO "tuple") (getE 0)))) (orF (tstF (bopF eqO (getE 0) (tupF nilF))) (notF (truF (uopF (isiO "str") (bopF ixO (getE 0) (cD (.int 0)))))))) (retS (cD (.bl false))) nilS)
  (seqS (ifS (tstF (bopF inO (bopF ixO (getE 0) (cD (.int 0))) (tupF (consF (cD (.str wTwice)) (consF (cD (.str wBlanks)) (consF (cD (.str wGreat)) nilF)))))) (retS (bopF eqO (callF lenO (consF (getE 0) nilF)) (cD (.int 1)))) nilS)
  (seqS (ifS (tstF (bopF eqO (bopF ixO (getE 0) (cD (.int 0))) (cD (.str wWord)))) (retS (andV (bopF eqO (callF lenO (consF (getE 0) nilF)) (cD (.int 3))) (andV (fnF 2 f_law_is_small (consF (bopF ixO (getE 0) (cD (.int 1))) (consF (cD (.int 1)) nilF))) (fnF 2 f_law_is_small (consF (bopF ixO (getE 0) (cD (.int 2))) (consF (cD (.int 0)) nilF)))))) nilS)
  (seqS (ifS (tstF (bopF neO (callF lenO (consF (getE 0) nilF)) (cD (.int 2)))) (retS (cD (.bl false))) nilS)
  (seqS (ifS (tstF (bopF eqO (bopF ixO (getE 0) (cD (.int 0))) (cD (.str wLong)))) (retS (andV (uopF (isiO "int") (bopF ixO (getE 0) (cD (.int 1)))) (andV (notV (uopF (isiO "bool") (bopF ixO (getE 0) (cD (.int 1))))) (chF ltO ltO (cD (.int 0)) (bopF ixO (getE 0) (cD (.int 1))) (cD (.int 10)))))) nilS)
  (seqS (ifS (orF (tstF (bopF neO (bopF ixO (getE 0) (cD (.int 0))) (cD (.str wSign)))) (orF (notF (truF (uopF (isiO "str") (bopF ixO (getE 0) (cD (.int 1)))))) (tstF (bopF neO (callF lenO (consF (bopF ixO (getE 0) (cD (.int 1))) nilF)) (cD (.int 1)))))) (retS (cD (.bl false))) nilS)
  (retS (andV (chF leO leO (cD (.str [33])) (bopF ixO (getE 0) (cD (.int 1))) (cD (.str [126]))) (andV (notV (chF leO leO (cD (.str [97])) (bopF ixO (getE 0) (cD (.int 1))) (cD (.str [122])))) (notV (chF leO leO (cD (.str [65])) (bopF ixO (getE 0) (cD (.int 1))) (cD (.str [90])))))))))))))
noncomputable def f_law_is_rule : List D → Res D := runD 1 B_law_is_rule
/-- _law_strange -/
noncomputable def B_law_strange : En → Res Fl := (seqS (asgS (.nm 1) (fnF 0 f_law_signs nilF))
  (seqS (asgL 2 (lstF (consF (cD .non) (consF (cD (.int 5)) (consF (cD (.str wTwice)) (consF (tupF nilF) (consF (tupF (consF (cD (.str wTwice)) (consF (cD (.int 1)) nilF))) (consF (tupF (consF (cD (.str wBlanks)) (consF (cD (.str [])) nilF))) nilF))))))))
  (seqS (asgL 2 (bopN addL (getE 2) (mkL (lstF (consF (tupF (consF (cD (.str wGreat)) (consF (cD .non) nilF))) (consF (tupF (consF (cD (.int 5)) nilF)) (consF (tupF (consF (cD .non) (consF (cD (.str [97])) nilF))) (consF (mkL (lstF (consF (cD (.str wTwice)) nilF))) (consF (tupF (consF (cD (.str [84, 119, 105, 99, 101])) nilF)) nilF)))))))))
  (seqS (asgL 2 (bopN addL (getE 2) (mkL (lstF (consF (tupF (consF (cD (.str wWord)) (consF (cD (.str wTeh)) nilF))) (consF (tupF (consF (cD (.str wWord)) (consF (cD (.str [])) (consF (cD (.str [97])) nilF)))) (consF (tupF (consF (cD (.str wWord)) (consF (cD (.str [97, 98, 99, 100, 101, 102, 103])) (consF (cD (.str [97])) nilF)))) nilF)))))))
  (seqS (asgL 2 (bopN addL (getE 2) (mkL (lstF (consF (tupF (consF (cD (.str wWord)) (consF (cD (.str wTeh)) (consF (cD (.str [97, 98, 99, 100, 101, 102, 103])) nilF)))) (consF (tupF (consF (cD (.str wWord)) (consF (cD (.int 5)) (consF (cD (.str [97])) nilF)))) nilF))))))
  (seqS (asgL 2 (bopN addL (getE 2) (mkL (lstF (consF (tupF (consF (cD (.str wWord)) (consF (cD (.str wTeh)) (consF (cD .non) nilF)))) (consF (tupF (consF (cD (.str wWord)) (consF (cD (.str [84, 101, 104])) (consF (cD (.str [97])) nilF)))) (consF (tupF (consF (cD (.str wWord)) (consF (cD (.str [116, 101, 32, 104])) (consF (cD (.str [97])) nilF)))) nilF)))))))
  (seqS (asgL 2 (bopN addL (getE 2) (mkL (lstF (consF (tupF (consF (cD (.str wWord)) (consF (cD (.str wTeh)) (consF (cD (.str [])) nilF)))) (consF (tupF (consF (cD (.str wWord)) (consF (cD (.str [116])) (consF (cD (.str [116, 104])) (consF (cD (.str [])) nilF))))) nilF))))))
  (seqS (asgL 2 (bopN addL (getE 2) (mkL (lstF (consF (tupF (consF (cD (.str wLong)) (consF (cD (.int 0)) nilF))) (consF (tupF (consF (cD (.str wLong)) (consF (cD (.int 1)) nilF))) (consF (tupF (consF (cD (.str wLong)) (consF (cD (.int 9)) nilF))) (consF (tupF (consF (cD (.str wLong)) (consF (cD (.int 10)) nilF))) nilF))))))))
  (seqS (asgL 2 (bopN addL (getE 2) (mkL (lstF (consF (tupF (consF (cD (.str wLong)) (consF (cD (.bl true)) nilF))) (consF (tupF (consF (cD (.str wLong)) (consF (cD (.str [51])) nilF))) (consF (tupF (consF (cD (.str wLong)) nilF)) (consF (tupF (consF (cD (.str wLong)) (consF (cD (.int 3)) (consF (cD (.int 3)) nilF)))) nilF))))))))
  (seqS (asgL 2 (bopN addL (getE 2) (mkL (lstF (consF (tupF (consF (cD (.str wSign)) (consF (cD (.str [])) nilF))) (consF (tupF (consF (cD (.str wSign)) (consF (cD (.str [33, 33])) nilF))) (consF (tupF (consF (cD (.str wSign)) (consF (cD (.str [32])) nilF))) (consF (tupF (consF (cD (.str wSign)) (consF (cD .non) nilF))) nilF))))))))
  (seqS (asgL 2 (bopN addL (getE 2) (mkL (lstF (consF (tupF (consF (cD (.str wSign)) (consF (cD (.str [33])) nilF))) (consF (tupF (consF (cD (.str wSign)) nilF)) (consF (tupF (consF (cD (.str wSign)) (consF (cD (.str [97])) (consF (cD (.str [98])) nilF)))) (consF (tupF (consF (cD (.str [115, 105, 103, 104])) (consF (cD (.str [33])) nilF))) nilF))))))))
  (retN (bopN addL (getE 2) (mkL (compF [3] (itF asRng1 (consF (cD (.int 12)) nilF)) (.nm 3) yesF (tupF (consF (cD (.str wSign)) (consF (bopF ixO (getE 1) (fnF 3 f_law_mix (consF (bopF addO (getE 0) (getE 3)) (consF (cD (.int 9817)) (consF (callF lenO (consF (getE 1) nilF)) nilF))))) nilF))))))))))))))))))
noncomputable def f_law_strange : List D → Res (List D) := runL 4 B_law_strange
/-- law -/
noncomputable def B_law : En → Res Fl := (seqS (forS (itF asRng1 (consF (cD (.int 10)) nilF)) (.nm 1)
    (seqS (asgS (.nm 2) (bopF addO (fnF 2 f_law_cell (consF (getE 0) (consF (bopF modI (getE 1) (cD (.int 9))) nilF))) (bopF mulI (cD (.int 31)) (getE 1))))
  (seqS (asgS (.nm 3) (fnF 1 f_law_rules (consF (getE 2) nilF)))
  (seqS (ifS (orF (tstF (bopF isnO (fnF 1 f_are_rules (consF (getE 3) nilF)) (cD (.bl true)))) (tstF (bopF isnO (fnF 1 f_are_rules (consF (mkL (callF listO (consF (getE 3) nilF))) nilF)) (cD (.bl false))))) (retS (cD (.bl false))) nilS)
  (seqS (ifS (tstF (bopF isnO (fnF 1 f_are_rules (consF (bopF addO (getE 3) (slF slO (getE 3) noP (soP (cD (.int 1))))) nilF)) (cD (.bl false)))) (retS (cD (.bl false))) nilS)
  (seqS (asgS (.nm 4) (fnF 3 f_law_mix (consF (getE 2) (consF (cD (.int 9811)) (consF (callF lenO (consF (getE 3) nilF)) nilF)))))
  (forS (newG (fnF 1 f_law_strange (consF (getE 2) nilF))) (.nm 5)
    (seqS (asgS (.nm 6) (bopF addO (bopF addO (slF slO (getE 3) noP (soP (getE 4))) (tupF (consF (getE 5) nilF))) (slF slO (getE 3) (soP (bopF addO (getE 4) (cD (.int 1)))) noP)))
  (seqS (asgS (.nm 7) (bopF addO (slF slO (getE 3) noP (soP (getE 4))) (slF slO (getE 3) (soP (bopF addO (getE 4) (cD (.int 1)))) noP)))
  (seqS (asgS (.nm 8) (andV (fnF 1 f_law_is_rule (consF (getE 5) nilF)) (bopF eqO (mkL (compF [11] (itF asTup (getE 7)) (.nm 11) (tstF (bopF eqO (getE 11) (getE 5))) (getE 11))) (mkL (lstF nilF)))))
  (seqS (asgS (.nm 9) (fnF 1 f_are_rules (consF (getE 6) nilF)))
  (ifS (orF (andF (tstF (bopF isnO (getE 9) (cD (.bl true)))) (truF (getE 8))) (andF (tstF (bopF isnO (getE 9) (cD (.bl false)))) (notF (truF (getE 8))))) (retS (cD (.bl false))) nilS))))))))))))
  (seqS (asgS (.nm 10) (callF tupleO (consF (mkL (compF [12] (itF asTup (tupF (consF (cD (.int 1)) (consF (cD (.int 2)) (consF (cD (.int 3)) (consF (cD (.int 4)) (consF (cD (.int 5)) nilF))))))) (.nm 12) yesF (tupF (consF (cD (.str wLong)) (consF (getE 12) nilF))))) nilF)))
  (seqS (ifS (orF (tstF (bopF isnO (fnF 1 f_are_rules (consF (slF slO (getE 10) noP (soP (cD (.int 4)))) nilF)) (cD (.bl true)))) (tstF (bopF isnO (fnF 1 f_are_rules (consF (getE 10) nilF)) (cD (.bl false))))) (retS (cD (.bl false))) nilS)
  (retS (andV (bopF isO (fnF 1 f_are_rules (consF (tupF nilF) nilF)) (cD (.bl false))) (bopF isO (fnF 1 f_are_rules (consF (cD .non) nilF)) (cD (.bl false))))))))
noncomputable def f_law : List D → Res D := runD 13 B_law
end FM

set_option Elab.async false
set_option linter.all false
set_option maxRecDepth 100000
namespace FM
open PySem PyProof.Rows L2
theorem slE : (sizeLine : Nat) = 16777216 := sizeLine_eq
/-- signs of the small alphabet -/
def isSm (c : Nat) : Bool := decide (97 ≤ c) && decide (c ≤ 122)
def isGr (c : Nat) : Bool := decide (65 ≤ c) && decide (c ≤ 90)
theorem mem_small (c : Nat) : decide (c ∈ tSmall) = isSm c := by
  rw [Bool.eq_iff_iff]
  simp only [tSmall, isSm, decide_eq_true_eq, Bool.and_eq_true, List.mem_cons, List.not_mem_nil, or_false]
  omega
theorem mem_great (c : Nat) : decide (c ∈ tGreat) = isGr c := by
  rw [Bool.eq_iff_iff]
  simp only [tGreat, isGr, decide_eq_true_eq, Bool.and_eq_true, List.mem_cons, List.not_mem_nil, or_false]
  omega
def niceE : D → Bool
  | .str l => decide (l.length ≤ 100) && l.all (· < 128)
  | .tup _ => false
  | .lst _ => false
  | _ => true
def nice : D → Bool
  | .tup ds => ds.all niceE
  | _ => true
def smallB (least : Nat) : D → Bool
  | .str l => decide (least ≤ l.length) && (decide (l.length ≤ 6) && l.all isSm)
  | _ => false
def signC (c : Nat) : Bool := decide (33 ≤ c) && decide (c ≤ 126) && !isSm c && !isGr c
def signB : D → Bool
  | .str [c] => signC c
  | _ => false
def gSm : D → D
  | .str [c] => .bl (isSm c)
  | _ => .non
theorem gSm_map (l : List Nat) : (chD l).map gSm = l.map fun c => .bl (isSm c) := by
  simp [chD, gSm, List.map_map, Function.comp_def]
theorem chD_len (l : List Nat) : (chD l).length = l.length := by simp [chD]
theorem f_small {d : D} (hd : niceE d = true) {least : Nat} : f_is_small_word [d, .int (least : Nat)] = .ok (.bl (smallB least d)) := by
  unfold f_is_small_word runD B_is_small_word
  cases d with
  | str l =>
    simp only [niceE, Bool.and_eq_true, decide_eq_true_eq] at hd
    have hs : l.length ≤ sizeLine := by rw [slE]; omega
    have e1 : compF [2] (itF asStr (getE 0)) (.nm 2) yesF (bopF inO (getE 2) (cD (.str tSmall))) [.dat (.str l), .dat (.int (least : Nat)), .un] = .ok (l.map fun c => .bl (isSm c)) := by
      rw [← gSm_map]
      refine compF_ok (items := chD l) (by simp) (by rw [chD_len]; exact hs) (lcF_map fun d hd => ?_)
      simp only [chD, List.mem_map] at hd
      obtain ⟨c, hc, rfl⟩ := hd
      exact ⟨_, by rw [setT_nm, setN_lf rfl], by simp [inO, inB, mem_small, gSm], rfl⟩
    have e2 : lenO [.str l] = some (.int (l.length : Nat)) := lenO_str hs
    simp [isiO, e1, e2, allO, blsO_map, smallB]
    by_cases h1 : least ≤ l.length
    · by_cases h2 : (l.length : Int) ≤ 6
      · have h3 : l.length ≤ 6 := by omega
        simp [h1, h2, h3]
      · have h3 : ¬ l.length ≤ 6 := by omega
        simp [h1, h2, h3]
    · simp [h1]
  | _ => simp [isiO, smallB]
theorem f_small1 {d : D} (hd : niceE d = true) : f_is_small_word [d, .int 1] = .ok (.bl (smallB 1 d)) := f_small hd (least := 1)
theorem f_small0 {d : D} (hd : niceE d = true) : f_is_small_word [d, .int 0] = .ok (.bl (smallB 0 d)) := f_small hd (least := 0)
theorem f_sign {d : D} (hd : niceE d = true) : f_is_sign [d] = .ok (.bl (signB d)) := by
  unfold f_is_sign runD B_is_sign
  cases d with
  | str l =>
    simp only [niceE, Bool.and_eq_true, decide_eq_true_eq] at hd
    have hs : l.length ≤ sizeLine := by rw [slE]; omega
    have e2 : lenO [.str l] = some (.int (l.length : Nat)) := lenO_str hs
    have e3 : addO (.str tSmall) (.str tGreat) = some (.str (tSmall ++ tGreat)) := addO_ss (by rw [slE]; decide)
    match l with
    | [] => simp [isiO, e2, signB]
    | [c] =>
      have e4 : ninO (.str [c]) (.str (tSmall ++ tGreat)) = some (.bl (!(isSm c || isGr c))) := by
        simp only [ninO, inB, Option.map_some, ← mem_small, ← mem_great, List.mem_append, Bool.decide_or]
      simp [isiO, e2, e3, e4, signB, signC]
      by_cases h1 : 33 ≤ c <;> by_cases h3 : c ≤ 126 <;> simp [h1, h3]
    | c :: c2 :: r =>
      have : ¬ ((r.length : Int) + 1 + 1 = 1) := by omega
      simp [isiO, e2, signB, this]
  | _ => simp [isiO, signB]
def longB : D → Bool
  | .int n => decide (1 ≤ n) && decide (n ≤ 9)
  | _ => false
/-- whether data is a rule -/
def isRuleB : D → Bool
  | .tup (.str w :: rest) =>
    if w = wTwice ∨ w = wBlanks ∨ w = wGreat then rest.isEmpty
    else if w = wWord then (match rest with | [a, b] => smallB 1 a && smallB 0 b | _ => false)
    else if w = wLong then (match rest with | [a] => longB a | _ => false)
    else if w = wSign then (match rest with | [a] => signB a | _ => false)
    else false
  | _ => false
theorem ok64_str {l : List Nat} (h : l.all (· < 128) = true) : D.okN 64 (.str l) = true := by
  simp only [D.okN, List.all_eq_true, decide_eq_true_eq] at h ⊢
  intro x hx
  have := h x hx
  omega
theorem cut1 {α : Type} (x : α) (r : List α) : cutL (x :: r) (some 1) none = r := by
  have h1 : HT.sIx (x :: r).length 0 (some 1) = 1 := by
    have := HT.sIx_nat (x :: r).length 0 1
    rw [show ((1 : Nat) : Int) = 1 from rfl] at this
    rw [this, List.length_cons]
    omega
  unfold cutL
  rw [h1, HT.sIx_none]
  simp
theorem in3 {l : List Nat} (h : l.all (· < 128) = true) (a b c : List Nat) (ha : okAll 63 [.str a, .str b, .str c] = true) : inO (.str l) (.tup [.str a, .str b, .str c]) = some (.bl (decide (l = a ∨ l = b ∨ l = c))) := by
  have e : inB (.str l) (.tup [.str a, .str b, .str c]) = some (decide (l = a ∨ l = b ∨ l = c)) := by
    have h1 : (D.okN 64 (.str l) && okAll 63 [.str a, .str b, .str c]) = true := by rw [ok64_str h, ha]; rfl
    unfold inB
    split
    · rename_i e1 e2; cases e2
    · rename_i ds e1 e2
      cases e2
      rw [if_pos h1]
      congr 1
      rw [Bool.eq_iff_iff]
      simp only [List.any_cons, List.any_nil, eqv, Bool.or_false, Bool.or_eq_true, beq_iff_eq, decide_eq_true_eq]
      constructor <;> rintro (h | h | h) <;> simp [h]
    · rename_i e1 e2; cases e2
    · rename_i e1 e2 e3 e4
      exact absurd rfl (e2 _)
  simp [inO, e]
theorem f_rule {d : D} (hd : nice d = true) : f_is_rule [d] = .ok (.bl (isRuleB d)) := by
  unfold f_is_rule runD B_is_rule
  cases d with
  | tup ds =>
    cases ds with
    | nil => simp [seqS_ap, isiO, isRuleB]
    | cons a r =>
      simp only [nice, List.all_cons, Bool.and_eq_true] at hd
      cases a with
      | str w =>
        have hw : w.all (· < 128) = true := by
          have := hd.1
          simp only [niceE, Bool.and_eq_true] at this
          exact this.2
        have i3 := in3 hw wTwice wBlanks wGreat (by decide)
        have hr : ∀ x ∈ r, niceE x = true := by simpa using hd.2
        have ec : cutL (D.str w :: r) (some 1) none = r := cut1 _ _
        by_cases h1 : w = wTwice ∨ w = wBlanks ∨ w = wGreat
        · rw [decide_eq_true h1] at i3
          simp [seqS_ap, isiO, setN, slE, i3, ec, isRuleB, h1]
          cases r <;> simp
          omega
        · rw [decide_eq_false h1] at i3
          have at1 : ∀ (a b : D) (s : List D), atI (a :: b :: s) 1 = some b := fun a b s => atI_n (i := 1) (by simp)
          by_cases h2 : w = wWord
          · subst h2
            have h2 : (wWord == wWord) = true := by decide
            match r, hr, ec with
            | [], hr, ec => simp [seqS_ap, isiO, setN, slE, i3, ec, isRuleB, h1, h2]
            | [a], hr, ec => simp [seqS_ap, isiO, setN, slE, i3, ec, isRuleB, h1, h2]
            | [a, b], hr, ec =>
              have ha := f_small1 (hr a (by simp))
              have hb := f_small0 (hr b (by simp))
              simp [seqS_ap, isiO, setN, slE, i3, ec, isRuleB, h1, h2, ha, hb, at1]
              cases smallB 1 a <;> simp
            | a :: b :: c :: s, hr, ec =>
              have : ¬ ((s.length : Int) + 1 + 1 + 1 = 2) := by omega
              simp [seqS_ap, isiO, setN, slE, i3, ec, isRuleB, h1, h2, this]
          · by_cases h3 : w = wLong
            · subst h3
              have h3 : (wLong == wLong) = true := by decide
              match r, hr, ec with
              | [], hr, ec => simp [seqS_ap, isiO, setN, slE, i3, ec, isRuleB, h1, h2, h3]
              | [a], hr, ec =>
                simp [seqS_ap, isiO, setN, slE, i3, ec, isRuleB, h1, h2, h3]
                cases a <;> simp [isiO, longB]
                rename_i n
                by_cases q : 1 ≤ n <;> simp [q]
              | a :: b :: s, hr, ec =>
                have : ¬ ((s.length : Int) + 1 + 1 = 1) := by omega
                simp [seqS_ap, isiO, setN, slE, i3, ec, isRuleB, h1, h2, h3, this]
            · by_cases h4 : w = wSign
              · subst h4
                have h4 : (wSign == wSign) = true := by decide
                match r, hr, ec with
                | [], hr, ec => simp [seqS_ap, isiO, setN, slE, i3, ec, isRuleB, h1, h2, h3, h4]
                | [a], hr, ec =>
                  have ha := f_sign (hr a (by simp))
                  simp [seqS_ap, isiO, setN, slE, i3, ec, isRuleB, h1, h2, h3, h4, ha]
                | a :: b :: s, hr, ec =>
                  have : ¬ ((s.length : Int) + 1 + 1 = 1) := by omega
                  simp [seqS_ap, isiO, setN, slE, i3, ec, isRuleB, h1, h2, h3, h4, this]
              · simp [seqS_ap, isiO, setN, slE, i3, ec, isRuleB, h1, h2, h3, h4]
      | _ => simp [seqS_ap, isiO, isRuleB]
  | _ => simp [seqS_ap, isiO, isRuleB]
theorem eqv_lst_nil (l : List D) : eqv (.lst l) (.lst []) = l.isEmpty := by cases l <;> simp [eqv, eqvAll]
theorem f_lsmall {d : D} (hd : niceE d = true) {least : Nat} : f_law_is_small [d, .int (least : Nat)] = .ok (.bl (smallB least d)) := by
  unfold f_law_is_small runD B_law_is_small
  cases d with
  | str l =>
    simp only [niceE, Bool.and_eq_true, decide_eq_true_eq] at hd
    have hs : l.length ≤ sizeLine := by rw [slE]; omega
    have e2 : lenO [.str l] = some (.int (l.length : Nat)) := lenO_str hs
    have e1 : compF [2] (itF asStr (getE 0)) (.nm 2) (notF (tstF (chF leO leO (cD (.str [97])) (getE 2) (cD (.str [122]))))) (getE 2) [.dat (.str l), .dat (.int (least : Nat)), .un] = .ok ((l.filter fun c => !isSm c).map fun c => .str [c]) := by
      have e3 : ((l.filter fun c => !isSm c).map fun c => D.str [c]) = ((chD l).filter (fun d => match d with | .str [c] => !isSm c | _ => false)).map id := by
        simp [chD, List.filter_map, Function.comp_def]
      rw [e3]
      refine compF_ok (items := chD l) (by simp) (by rw [chD_len]; exact hs) (lcF_filter fun d hd => ?_)
      simp only [chD, List.mem_map] at hd
      obtain ⟨c, hc, rfl⟩ := hd
      refine ⟨_, by rw [setT_nm, setN_lf rfl], ?_, fun _ => ⟨by simp, rfl⟩⟩
      simp [isSm]
      by_cases h1 : 97 ≤ c <;> by_cases h2 : c ≤ 122 <;> simp [h1, h2]
    have e4 : okAll 63 ((l.filter fun c => !isSm c).map fun c => D.str [c]) = true := by
      rw [okAll_iff]
      intro d hd
      simp only [List.mem_map, List.mem_filter] at hd
      obtain ⟨c, ⟨hc, _⟩, rfl⟩ := hd
      have := List.all_eq_true.mp hd.2 c hc
      simp only [decide_eq_true_eq] at this
      simp only [D.okN, List.all_cons, List.all_nil, Bool.and_true, decide_eq_true_eq]
      omega
    have e5 : eqO (.lst ((l.filter fun c => !isSm c).map fun c => D.str [c])) (.lst []) = some (.bl (l.all isSm)) := by
      unfold eqO eqB
      rw [if_neg (by simp [scalD]), if_pos (by simp [D.okN, e4, okAll]), eqv_lst_nil]
      simp
      rw [Bool.eq_iff_iff]
      simp
    simp [seqS_ap, isiO, e1, e2, e5, smallB, slE]
    by_cases h1 : least ≤ l.length
    · have h1' : ¬ (l.length < least) := by omega
      by_cases h2 : l.length ≤ 6
      · have h3 : ¬ (6 < (l.length : Int)) := by omega
        simp [h1, h1', h2, h3, e1, e5]
      · have h3 : (6 < (l.length : Int)) := by omega
        simp [h1, h1', h2, h3]
    · have h1' : l.length < least := by omega
      simp [h1, h1']
  | _ => simp [seqS_ap, isiO, smallB]
theorem f_lsmall1 {d : D} (hd : niceE d = true) : f_law_is_small [d, .int 1] = .ok (.bl (smallB 1 d)) := f_lsmall hd (least := 1)
theorem f_lsmall0 {d : D} (hd : niceE d = true) : f_law_is_small [d, .int 0] = .ok (.bl (smallB 0 d)) := f_lsmall hd (least := 0)
theorem niceE_ok {d : D} (hd : niceE d = true) (n : Nat) : d.okN n = true := by
  cases d with
  | str l =>
    simp only [niceE, Bool.and_eq_true, List.all_eq_true, decide_eq_true_eq] at hd
    simp only [D.okN, List.all_eq_true, decide_eq_true_eq]
    intro x hx
    have := hd.2 x hx
    omega
  | tup _ => simp [niceE] at hd
  | lst _ => simp [niceE] at hd
  | _ => simp [D.okN]
theorem nice_ok {ds : List D} (hd : nice (.tup ds) = true) (n : Nat) : okAll n ds = true := by
  rw [okAll_iff]
  intro d h
  exact niceE_ok (List.all_eq_true.mp hd d h) n
theorem f_lrule {d : D} (hd : nice d = true) : f_law_is_rule [d] = .ok (.bl (isRuleB d)) := by
  unfold f_law_is_rule runD B_law_is_rule
  cases d with
  | tup ds =>
    have hk := nice_ok hd
    have e0 : eqO (.tup ds) (.tup []) = some (.bl ds.isEmpty) := by
      unfold eqO eqB
      rw [if_neg (by simp [scalD]), if_pos (by simp [D.okN, hk, okAll])]
      cases ds <;> simp [eqv, eqvAll]
    cases ds with
    | nil => simp [seqS_ap, isiO, isRuleB, slE, e0]
    | cons a r =>
      simp only [nice, List.all_cons, Bool.and_eq_true] at hd
      cases a with
      | str w =>
        have hw : w.all (· < 128) = true := by
          have := hd.1
          simp only [niceE, Bool.and_eq_true] at this
          exact this.2
        have i3 := in3 hw wTwice wBlanks wGreat (by decide)
        have hr : ∀ x ∈ r, niceE x = true := by simpa using hd.2
        have at1 : ∀ (a b : D) (s : List D), atI (a :: b :: s) 1 = some b := fun a b s => atI_n (i := 1) (by simp)
        have at2 : ∀ (a b c : D) (s : List D), atI (a :: b :: c :: s) 2 = some c := fun a b c s => atI_n (i := 2) (by simp)
        by_cases h1 : w = wTwice ∨ w = wBlanks ∨ w = wGreat
        · rw [decide_eq_true h1] at i3
          simp [seqS_ap, isiO, setN, slE, i3, isRuleB, h1, e0]
          cases r <;> simp
          omega
        · rw [decide_eq_false h1] at i3
          by_cases h2 : w = wWord
          · subst h2
            have h2 : (wWord == wWord) = true := by decide
            match r, hr, e0 with
            | [], hr, e0 => simp [seqS_ap, isiO, setN, slE, i3, isRuleB, h1, h2, e0]
            | [a], hr, e0 => simp [seqS_ap, isiO, setN, slE, i3, isRuleB, h1, h2, e0]
            | [a, b], hr, e0 =>
              have ha := f_lsmall1 (hr a (by simp))
              have hb := f_lsmall0 (hr b (by simp))
              simp [seqS_ap, isiO, setN, slE, i3, isRuleB, h1, h2, ha, hb, at1, at2, e0]
              cases smallB 1 a <;> simp
            | a :: b :: c :: s, hr, e0 =>
              have : ¬ ((s.length : Int) + 1 + 1 + 1 + 1 = 3) := by omega
              simp [seqS_ap, isiO, setN, slE, i3, isRuleB, h1, h2, this, e0]
          · match r, hr, e0 with
            | [], hr, e0 => simp [seqS_ap, isiO, setN, slE, i3, isRuleB, h1, h2, e0]
            | a :: b :: s, hr, e0 =>
              have : ¬ ((s.length : Int) + 1 + 1 + 1 = 2) := by omega
              simp [seqS_ap, isiO, setN, slE, i3, isRuleB, h1, h2, this, e0]
            | [a], hr, e0 =>
              by_cases h3 : w = wLong
              · subst h3
                have h3 : (wLong == wLong) = true := by decide
                simp [seqS_ap, isiO, setN, slE, i3, isRuleB, h1, h2, h3, at1, e0]
                cases a <;> simp [isiO, longB]
                rename_i n
                have q0 : (0 < n) ↔ 1 ≤ n := by omega
                have q1 : (n < 10) ↔ n ≤ 9 := by omega
                by_cases q : 1 ≤ n <;> simp [q, q0, q1]
              · by_cases h4 : w = wSign
                · subst h4
                  have h4 : (wSign == wSign) = true := by decide
                  have ha := hr a (by simp)
                  cases a with
                  | str l =>
                    simp only [niceE, Bool.and_eq_true, decide_eq_true_eq] at ha
                    have hs : l.length ≤ sizeLine := by rw [slE]; omega
                    have e2 : lenO [.str l] = some (.int (l.length : Nat)) := lenO_str hs
                    match l, e2 with
                    | [], e2 => simp [seqS_ap, isiO, setN, slE, i3, isRuleB, h1, h2, h3, h4, at1, e0, e2, signB]
                    | [c], e2 =>
                      simp [seqS_ap, isiO, setN, slE, i3, isRuleB, h1, h2, h3, h4, at1, e0, e2, signB, signC, isSm, isGr]
                      by_cases q1 : 33 ≤ c <;> by_cases q2 : c ≤ 126 <;> by_cases q3 : 97 ≤ c <;> by_cases q4 : c ≤ 122 <;> by_cases q5 : 65 ≤ c <;> by_cases q6 : c ≤ 90 <;> simp [q1, q2, q3, q4, q5, q6]
                    | c :: c2 :: s, e2 =>
                      have : ¬ ((s.length : Int) + 1 + 1 = 1) := by omega
                      simp [seqS_ap, isiO, setN, slE, i3, isRuleB, h1, h2, h3, h4, at1, e0, e2, signB, this]
                  | tup _ => simp [niceE] at ha
                  | lst _ => simp [niceE] at ha
                  | _ => simp [seqS_ap, isiO, setN, slE, i3, isRuleB, h1, h2, h3, h4, at1, e0, signB]
                · simp [seqS_ap, isiO, setN, slE, i3, isRuleB, h1, h2, h3, h4, e0]
      | _ => simp [seqS_ap, isiO, isRuleB, slE, e0]
  | _ => simp [seqS_ap, isiO, isRuleB, slE]
end FM

set_option Elab.async false
set_option linter.all false
set_option maxRecDepth 100000
/-! H0: the laws' own helpers: cells, draws, letters, rules. -/
namespace FM
open PySem PyProof.Rows L2
/-- a draw -/
def mixV (c p m : Int) : Int := ((c * 48271 % p) * ((c * 48271 % p) + 7)) % p % m
theorem mixV_nn (c p : Int) {m : Int} (hm : 0 < m) : 0 ≤ mixV c p m := Int.emod_nonneg _ (by omega)
theorem mixV_lt (c p : Int) {m : Int} (hm : 0 < m) : mixV c p m < m := Int.emod_lt_of_pos _ hm
theorem f_mix (c : Int) {p m : Int} (h0 : 0 < p) (h1 : p < 2 ^ 31) (hm : 0 < m) : f_law_mix [.int c, .int p, .int m] = .ok (.int (mixV c p m)) := by
  have b0 : 0 ≤ c * 48271 % p := Int.emod_nonneg _ (by omega)
  have b1 : c * 48271 % p < p := Int.emod_lt_of_pos _ h0
  have b2 : (c * 48271 % p).natAbs < 2 ^ 64 := by omega
  unfold f_law_mix runD B_law_mix
  simp [seqS_ap, setN, h0, hm, b2, mixV]
/-- a draw, as a natural number -/
def mixN (c p : Int) (m : Nat) : Nat := (mixV c p m).toNat
theorem mixN_lt (c p : Int) {m : Nat} (hm : 0 < m) : mixN c p m < m := by
  have h1 := mixV_nn c p (m := m) (by omega)
  have h2 := mixV_lt c p (m := m) (by omega)
  unfold mixN
  omega
theorem f_mixN (c : Int) {p : Int} {m : Nat} (h0 : 0 < p) (h1 : p < 2 ^ 31) (hm : 0 < m) : f_law_mix [.int c, .int p, .int (m : Nat)] = .ok (.int (mixN c p m : Nat)) := by
  rw [f_mix c h0 h1 (by omega)]
  have h1 := mixV_nn c p (m := m) (by omega)
  unfold mixN
  rw [Int.toNat_of_nonneg h1]
theorem f_cell (ns : List Int) (k : Nat) : ∃ c, f_law_cell [.lst (ns.map .int), .int (k : Nat)] = .ok (.int c) := by
  unfold f_law_cell runD B_law_cell
  by_cases h : k < ns.length
  · refine ⟨ns[k], ?_⟩
    have h' : (k : Int) < (ns.length : Int) := by omega
    have e : atI (ns.map D.int) (k : Nat) = some (.int ns[k]) := atI_n (by simp [h])
    simp [seqS_ap, h, e]
  · exact ⟨0, by simp [seqS_ap, h]⟩
theorem f_signs : f_law_signs [] = .ok (.str tSigns) := by
  unfold f_law_signs runD B_law_signs
  simp
def isLet (c : Nat) : Bool := isSm c || isGr c
theorem letters_at {i : Nat} (h : i < 52) : ∃ c, tLetters[i]? = some c ∧ isLet c = true := by
  have q : (List.range 52).all (fun i => match tLetters[i]? with | some c => isLet c | none => false) = true := by decide
  have := List.all_eq_true.mp q i (List.mem_range.mpr h)
  revert this
  cases tLetters[i]? with
  | none => intro z; cases z
  | some c => intro z; exact ⟨c, rfl, z⟩
theorem asRng1_nat {n : Nat} (h : n < 2 ^ 62) : asRng1 [.int (n : Nat)] = .ok (rgD 0 n) := by
  simp only [asRng1, Int.natAbs_natCast, Int.toNat_natCast]
  rw [if_pos h]
theorem rgD_len (lo : Int) (n : Nat) : (rgD lo n).length = n := by simp [rgD]
theorem mapM_ex {te : En → Res D} {e : En} {t : Tg} {p : D → Prop} : ∀ {items : List D}, (∀ d ∈ items, ∃ e1 y, setT t d e = .ok e1 ∧ te e1 = .ok y ∧ y.lf = true ∧ p y) → ∃ zs, lcF t yesF te e items = .ok zs ∧ zs.length = items.length ∧ ∀ z ∈ zs, p z
  | [], _ => ⟨[], rfl, rfl, fun _ h => by cases h⟩
  | d :: r, h => by
    obtain ⟨e1, y, h1, h2, h3, h4⟩ := h d (by simp)
    obtain ⟨zs, h5, h6, h7⟩ := mapM_ex (items := r) fun d hd => h d (by simp [hd])
    refine ⟨y :: zs, ?_, by simp [h6], ?_⟩
    · simp only [lcF, h1, rb_ok, yesF, if_true, h2, h3, h5]
    · intro z hz
      rcases List.mem_cons.mp hz with rfl | hz
      · exact h4
      · exact h7 z hz
theorem strsO_ex : ∀ {zs : List D}, (∀ z ∈ zs, ∃ c, z = .str [c] ∧ isLet c = true) → ∃ l : List Nat, strsO zs = some (l.map fun c => [c]) ∧ l.length = zs.length ∧ ∀ c ∈ l, isLet c = true
  | [], _ => ⟨[], rfl, rfl, fun _ h => by cases h⟩
  | z :: r, h => by
    obtain ⟨c, rfl, hc⟩ := h z (by simp)
    obtain ⟨l, h1, h2, h3⟩ := strsO_ex (zs := r) fun z hz => h z (by simp [hz])
    refine ⟨c :: l, ?_, by simp [h2], ?_⟩
    · simp [strsO, h1]
    · intro x hx
      rcases List.mem_cons.mp hx with rfl | hx
      · exact hc
      · exact h3 x hx
theorem flat1 (l : List Nat) : (l.map fun c => [c]).flatten = l := by
  induction l with
  | nil => rfl
  | cons c r ih => simp [ih]
theorem f_letters (c : Int) {m : Nat} (hm : m ≤ 100) : ∃ l, f_law_letters [.int c, .int (m : Nat)] = .ok (.str l) ∧ l.length = m ∧ ∀ x ∈ l, isLet x = true := by
  obtain ⟨zs, h1, h2, h3⟩ := mapM_ex (e := wipeE [.dat (.int c), .dat (.int (m : Nat)), .dat (.str tLetters), .un] [3]) (t := .nm 3) (te := (bopF ixO (getE 2) (fnF 3 f_law_mix (consF (bopF addO (getE 0) (bopF mulI (cD (.int 7)) (getE 3))) (consF (cD (.int 9973)) (consF (cD (.int 52)) nilF))))))
    (p := fun z => ∃ c, z = .str [c] ∧ isLet c = true) (items := rgD 0 m) fun d hd => by
      simp only [rgD, List.mem_map] at hd
      obtain ⟨i, _, rfl⟩ := hd
      have h4 := f_mixN (c + 7 * (0 + (i : Nat))) (p := 9973) (m := 52) (by decide) (by decide) (by decide)
      obtain ⟨x, hx, hl⟩ := letters_at (mixN_lt (c + 7 * (0 + (i : Nat))) 9973 (m := 52) (by decide))
      refine ⟨_, .str [x], by rw [setT_nm, setN_lf rfl], ?_, rfl, x, rfl, hl⟩
      have h4' : f_law_mix [.int (c + 7 * (i : Nat)), .int 9973, .int 52] = .ok (.int (mixN (c + 7 * (0 + (i : Nat))) 9973 52 : Nat)) := by
        rw [Int.zero_add] at h4 ⊢
        exact h4
      have e1 : atI tLetters (mixN (c + 7 * (0 + (i : Nat))) 9973 52 : Nat) = some x := atI_n hx
      have e2 : ∀ j : Int, ixO (.str tLetters) (.int j) = (atI tLetters j).map fun c => .str [c] := fun j => ixO_str (by rw [slE]; decide)
      simp [h4', e2, e1]
      simp at e1
      simp [e1]
  obtain ⟨l, h5, h6, h7⟩ := strsO_ex h3
  refine ⟨l, ?_, by rw [h6, h2, rgD_len], h7⟩
  have e0 : compF [3] (itF asRng1 (consF (getE 1) nilF)) (.nm 3) yesF (bopF ixO (getE 2) (fnF 3 f_law_mix (consF (bopF addO (getE 0) (bopF mulI (cD (.int 7)) (getE 3))) (consF (cD (.int 9973)) (consF (cD (.int 52)) nilF))))) [.dat (.int c), .dat (.int (m : Nat)), .dat (.str tLetters), .un] = .ok zs := by
    refine compF_ok (items := rgD 0 m) ?_ (by rw [rgD_len, slE]; omega) h1
    simp [asRng1_nat (n := m) (by omega)]
  have e3 : joinO (.str []) (.lst zs) = some (.str l) := by
    simp only [joinO, h5, flat1]
    rw [if_pos]
    rw [h6, h2, rgD_len]
    omega
  unfold f_law_letters runD B_law_letters
  simp [seqS_ap, setN, isS, e0, e3]
/-- rules, typed -/
inductive Rule where
  | twice | blanks | great
  | word (w r : List Nat)
  | long (n : Int)
  | sign (c : Nat)
  deriving DecidableEq
def Rule.d : Rule → D
  | .twice => .tup [.str wTwice]
  | .blanks => .tup [.str wBlanks]
  | .great => .tup [.str wGreat]
  | .word w r => .tup [.str wWord, .str w, .str r]
  | .long n => .tup [.str wLong, .int n]
  | .sign c => .tup [.str wSign, .str [c]]
def Rule.ok : Rule → Bool
  | .word w r => decide (1 ≤ w.length) && decide (w.length ≤ 6) && w.all isSm && decide (r.length ≤ 6) && r.all isSm
  | .long n => decide (1 ≤ n) && decide (n ≤ 9)
  | .sign c => signC c
  | _ => true
theorem sm_lt {c : Nat} (h : isSm c = true) : c < 128 := by
  simp only [isSm, Bool.and_eq_true, decide_eq_true_eq] at h
  omega
theorem all_sm_lt {l : List Nat} (h : l.all isSm = true) : l.all (· < 128) = true := by
  rw [List.all_eq_true] at h ⊢
  intro x hx
  exact decide_eq_true (sm_lt (h x hx))
theorem Rule.nice {r : Rule} (h : r.ok = true) : FM.nice r.d = true := by
  cases r with
  | word w r =>
    simp only [Rule.ok, Bool.and_eq_true, decide_eq_true_eq] at h
    obtain ⟨⟨⟨⟨h1, h2⟩, h3⟩, h4⟩, h5⟩ := h
    simp only [Rule.d, FM.nice, List.all_cons, List.all_nil, niceE, all_sm_lt h3, all_sm_lt h5, Bool.and_true]
    simp
    exact ⟨⟨by decide, by decide⟩, by omega, by omega⟩
  | long n =>
    simp only [Rule.d, FM.nice, List.all_cons, List.all_nil, niceE, Bool.and_true]
    decide
  | sign c =>
    simp only [Rule.ok, signC, Bool.and_eq_true, decide_eq_true_eq] at h
    simp only [Rule.d, FM.nice, List.all_cons, List.all_nil, niceE, Bool.and_true]
    simp
    exact ⟨⟨by decide, by decide⟩, by omega⟩
  | _ => decide
theorem Rule.isRule {r : Rule} (h : r.ok = true) : isRuleB r.d = true := by
  cases r with
  | word w r =>
    simp only [Rule.ok, Bool.and_eq_true, decide_eq_true_eq] at h
    obtain ⟨⟨⟨⟨h1, h2⟩, h3⟩, h4⟩, h5⟩ := h
    have n1 : ¬ (wWord = wTwice ∨ wWord = wBlanks ∨ wWord = wGreat) := by decide
    simp only [Rule.d, isRuleB, n1, if_false, if_true, smallB, h3, h5]
    simp [h1, h2, h4]
  | long n =>
    have n1 : ¬ (wLong = wTwice ∨ wLong = wBlanks ∨ wLong = wGreat) := by decide
    have n2 : ¬ (wLong = wWord) := by decide
    simp only [Rule.d, isRuleB, n1, n2, if_false, if_true, longB]
    exact h
  | sign c =>
    have n1 : ¬ (wSign = wTwice ∨ wSign = wBlanks ∨ wSign = wGreat) := by decide
    have n2 : ¬ (wSign = wWord) := by decide
    have n3 : ¬ (wSign = wLong) := by decide
    simp only [Rule.d, isRuleB, n1, n2, n3, if_false, if_true, signB]
    exact h
  | _ => decide
theorem Rule.d_inj {a b : Rule} (h : a.d = b.d) : a = b := by
  cases a <;> cases b <;> simp [Rule.d] at h ⊢ <;> first | exact absurd h (by decide) | (obtain ⟨h1, h2⟩ := h; exact absurd h1 (by decide)) | exact h | skip
theorem lo_sm {c : Nat} (h : isLet c = true) : isSm (lo1 c) = true := by
  simp only [isLet, isSm, isGr, Bool.or_eq_true, Bool.and_eq_true, decide_eq_true_eq] at h ⊢
  unfold lo1
  by_cases q : 65 ≤ c ∧ c ≤ 90
  · rw [if_pos q]; omega
  · rw [if_neg q]; omega
theorem let_lt {c : Nat} (h : isLet c = true) : c < 128 := by
  simp only [isLet, isSm, isGr, Bool.or_eq_true, Bool.and_eq_true, decide_eq_true_eq] at h
  omega
theorem lowO_let {l : List Nat} (h : ∀ x ∈ l, isLet x = true) (hl : l.length ≤ 100) : lowO (.str l) = some (.str (l.map lo1)) ∧ (l.map lo1).all isSm = true := by
  have h1 : l.all (· < 128) = true := by
    rw [List.all_eq_true]
    intro x hx
    exact decide_eq_true (let_lt (h x hx))
  refine ⟨?_, ?_⟩
  · simp only [lowO]
    rw [if_pos ⟨by omega, h1⟩]
  · rw [List.all_map, List.all_eq_true]
    intro x hx
    exact lo_sm (h x hx)
/-- the signs that are no letters, and no blank -/
def sgL : List Nat := tSigns.filter fun c => !decide (c ∈ tBlankLetters)
theorem sgL_len : sgL.length = 41 := by decide
theorem sgL_ok : sgL.all signC = true := by decide
theorem sgL_at {i : Nat} (h : i < 41) : ∃ c, sgL[i]? = some c ∧ signC c = true := by
  have h' : i < sgL.length := by rw [sgL_len]; exact h
  exact ⟨sgL[i], List.getElem?_eq_getElem h', List.all_eq_true.mp sgL_ok _ (List.getElem_mem h')⟩
theorem sg_ok (c : D) : compF [4] (itF asStr (fnF 0 f_law_signs nilF)) (.nm 4) (tstF (bopF ninO (getE 4) (cD (.str tBlankLetters)))) (getE 4) [.dat c, .un, .un, .un, .un] = .ok (chD sgL) := by
  have e3 : chD sgL = ((chD tSigns).filter (fun d => match d with | .str [c] => !decide (c ∈ tBlankLetters) | _ => false)).map id := by
    simp [chD, sgL, List.filter_map, Function.comp_def]
  rw [e3]
  refine compF_ok (items := chD tSigns) (by simp [f_signs]) (by rw [chD_len, slE]; decide) (lcF_filter fun d hd => ?_)
  simp only [chD, List.mem_map] at hd
  obtain ⟨c, hc, rfl⟩ := hd
  exact ⟨_, by rw [setT_nm, setN_lf rfl], by simp [ninO, inB], fun _ => ⟨by simp, rfl⟩⟩
theorem at4 {a b c d : D} {i : Nat} (h : i < 4) : ∃ x, atI [a, b, c, d] (i : Nat) = some x ∧ (x = a ∨ x = b ∨ x = c ∨ x = d) := by
  match i, h with
  | 0, _ => exact ⟨a, atI_n rfl, .inl rfl⟩
  | 1, _ => exact ⟨b, atI_n rfl, .inr (.inl rfl)⟩
  | 2, _ => exact ⟨c, atI_n rfl, .inr (.inr (.inl rfl))⟩
  | 3, _ => exact ⟨d, atI_n rfl, .inr (.inr (.inr rfl))⟩
theorem at3 {a b c : D} {i : Nat} (h : i < 3) : ∃ x, atI [a, b, c] (i : Nat) = some x ∧ (x = a ∨ x = b ∨ x = c) := by
  match i, h with
  | 0, _ => exact ⟨a, atI_n rfl, .inl rfl⟩
  | 1, _ => exact ⟨b, atI_n rfl, .inr (.inl rfl)⟩
  | 2, _ => exact ⟨c, atI_n rfl, .inr (.inr rfl)⟩
theorem f_mixL (c : Int) (p : Int) (m : Int) (h0 : 0 < p) (h1 : p < 2 ^ 31) (hm : 0 < m) : ∃ r : Nat, f_law_mix [.int c, .int p, .int m] = .ok (.int (r : Nat)) ∧ (r : Int) < m := by
  obtain ⟨k, rfl⟩ : ∃ k : Nat, m = (k : Int) := ⟨m.toNat, by omega⟩
  exact ⟨mixN c p k, f_mixN c h0 h1 (by omega), by have := mixN_lt c p (m := k) (by omega); omega⟩
theorem lf_chD (l : List Nat) : lfAll (chD l) = true := by
  rw [lfAll_iff]
  intro d hd
  simp only [chD, List.mem_map] at hd
  obtain ⟨c, _, rfl⟩ := hd
  rfl
theorem f_lawrule (c : Int) : ∃ r : Rule, f_law_rule [.int c] = .ok r.d ∧ r.ok = true := by
  obtain ⟨way, hw, hw6⟩ := f_mixL c 9923 6 (by decide) (by decide) (by decide)
  unfold f_law_rule runD B_law_rule
  have hsg := sg_ok (.int c)
  have i1 : initE 5 [.int c] = [.dat (.int c), .un, .un, .un, .un] := rfl
  rw [i1]
  simp only [seqS_ap, asgL_ap, hsg, rb_ok, lf_chD, Bool.true_or, if_true, List.set, asgS_ap, fnF_ap, consF_ap, getE_dat, cD_ap, nilF_ap, List.length_cons, List.length_nil, hw, noX_ok, setT_nm, setN, lf_int, nxS_ok]
  match way, hw6 with
  | 0, _ =>
    obtain ⟨a1, e1, b1⟩ := f_mixL c 9907 6 (by decide) (by decide) (by decide)
    obtain ⟨a2, e2, b2⟩ := f_mixL c 9901 4 (by decide) (by decide) (by decide)
    obtain ⟨a3, e3, b3⟩ := f_mixL c 9887 4 (by decide) (by decide) (by decide)
    obtain ⟨l1, q1, q2, q3⟩ := f_letters c (m := a1 + 1) (by omega)
    obtain ⟨l2, p1, p2, p3⟩ := f_letters (c + 1) (m := 6) (by omega)
    obtain ⟨w1, w2⟩ := lowO_let q3 (by omega)
    obtain ⟨v1, v2⟩ := lowO_let p3 (by omega)
    have q1' : f_law_letters [.int c, .int (1 + (a1 : Nat))] = .ok (.str l1) := by
      have : ((a1 + 1 : Nat) : Int) = 1 + (a1 : Nat) := by omega
      rw [← this]; exact q1
    have p1' : f_law_letters [.int (c + 1), .int 6] = .ok (.str l2) := p1
    obtain ⟨x, hx, ox⟩ := at4 (a := .str [97]) (b := .str wTeh) (c := .str wThe) (d := .str (l1.map lo1)) (i := a2) (by omega)
    obtain ⟨y, hy, oy⟩ := at4 (a := .str []) (b := .str [97]) (c := .str wThe) (d := .str (l2.map lo1)) (i := a3) (by omega)
    have ex : ∃ w, x = .str w ∧ 1 ≤ w.length ∧ w.length ≤ 6 ∧ w.all isSm = true := by
      rcases ox with rfl | rfl | rfl | rfl
      · exact ⟨_, rfl, by decide, by decide, by decide⟩
      · exact ⟨_, rfl, by decide, by decide, by decide⟩
      · exact ⟨_, rfl, by decide, by decide, by decide⟩
      · exact ⟨_, rfl, by simp; omega, by simp; omega, w2⟩
    have ey : ∃ w, y = .str w ∧ w.length ≤ 6 ∧ w.all isSm = true := by
      rcases oy with rfl | rfl | rfl | rfl
      · exact ⟨_, rfl, by decide, by decide⟩
      · exact ⟨_, rfl, by decide, by decide⟩
      · exact ⟨_, rfl, by decide, by decide⟩
      · exact ⟨_, rfl, by simp; omega, v2⟩
    obtain ⟨w, rfl, hw1, hw2, hw3⟩ := ex
    obtain ⟨v, rfl, hv2, hv3⟩ := ey
    refine ⟨.word w v, ?_, by simp [Rule.ok, hw1, hw2, hw3, hv2, hv3]⟩
    simp [seqS_ap, e1, e2, e3, q1', p1', w1, v1, hx, hy, setN, slE, Rule.d]
  | 1, _ =>
    obtain ⟨a1, e1, b1⟩ := f_mixL c 9883 9 (by decide) (by decide) (by decide)
    refine ⟨.long (1 + a1), ?_, by simp [Rule.ok]; omega⟩
    simp [seqS_ap, e1, slE, Rule.d]
  | 2, _ =>
    obtain ⟨a1, e1, b1⟩ := f_mixL c 9871 41 (by decide) (by decide) (by decide)
    obtain ⟨a2, e2, b2⟩ := f_mixL c 9859 3 (by decide) (by decide) (by decide)
    obtain ⟨s, hs, os⟩ := sgL_at (i := a1) (by omega)
    obtain ⟨x, hx, ox⟩ := at3 (a := .str [33]) (b := .str [46]) (c := .str [s]) (i := a2) (by omega)
    have ex : ∃ w, x = .str [w] ∧ signC w = true := by
      rcases ox with rfl | rfl | rfl
      · exact ⟨_, rfl, by decide⟩
      · exact ⟨_, rfl, by decide⟩
      · exact ⟨_, rfl, os⟩
    obtain ⟨w, rfl, hw1⟩ := ex
    refine ⟨.sign w, ?_, hw1⟩
    have hc : (chD sgL).length = 41 := by rw [chD_len, sgL_len]
    have ha : atI (chD sgL) (a1 : Nat) = some (.str [s]) := atI_n (by simp [chD, hs])
    simp [seqS_ap, e1, e2, slE, Rule.d, hc, ha, hx]
  | way + 3, h =>
    have h3 : way < 3 := by omega
    obtain ⟨x, hx, ox⟩ := at3 (a := .tup [.str wTwice]) (b := .tup [.str wBlanks]) (c := .tup [.str wGreat]) (i := way) h3
    have ex : ∃ r : Rule, x = r.d ∧ r.ok = true := by
      rcases ox with rfl | rfl | rfl
      · exact ⟨.twice, rfl, rfl⟩
      · exact ⟨.blanks, rfl, rfl⟩
      · exact ⟨.great, rfl, rfl⟩
    obtain ⟨r, rfl, hr⟩ := ex
    refine ⟨r, ?_, hr⟩
    have n0 : ¬ ((way : Int) + 3 = 0) := by omega
    have n1 : ¬ ((way : Int) + 3 = 1) := by omega
    have n2 : ¬ ((way : Int) + 3 = 2) := by omega
    have n3 : (way : Int) + 3 - 3 = way := by omega
    simp [seqS_ap, n0, n1, n2, n3, hx, slE]
/-! ### loops, equality -/
theorem forF_inv {t : Tg} {B : En → Res Fl} {items : List D} (P : Nat → En → Prop) (hs : ∀ (i : Nat) d e, items[i]? = some d → P i e → ∃ e1 e2, setT t d e = .ok e1 ∧ B e1 = .ok (.nx e2) ∧ P (i + 1) e2) :
    ∀ {e : En}, P 0 e → ∃ e', forF t B items e = .ok (.nx e') ∧ P items.length e' := by
  have key : ∀ (n i : Nat) (e : En), n + i = items.length → P i e → ∃ e', forF t B (items.drop i) e = .ok (.nx e') ∧ P items.length e' := by
    intro n
    induction n with
    | zero =>
      intro i e hi p
      have : i = items.length := by omega
      subst this
      exact ⟨e, by simp [forF], p⟩
    | succ n ih =>
      intro i e hi p
      have hlt : i < items.length := by omega
      obtain ⟨e1, e2, h1, h2, h3⟩ := hs i _ e (List.getElem?_eq_getElem hlt) p
      obtain ⟨e', h4, h5⟩ := ih (i + 1) e2 (by omega) h3
      refine ⟨e', ?_, h5⟩
      rw [List.drop_eq_getElem_cons hlt]
      simp only [forF, h1, rb_ok, h2, h4]
  intro e p
  have := key items.length 0 e (by simp) p
  simpa using this
mutual
/-- no truths within -/
def D.nb : D → Bool
  | .bl _ => false
  | .tup xs => nbAll xs
  | .lst xs => nbAll xs
  | _ => true
def nbAll : List D → Bool
  | [] => true
  | d :: ds => d.nb && nbAll ds
end
mutual
theorem eqv_iff : ∀ (d e : D), d.nb = true → e.nb = true → (eqv d e = true ↔ d = e)
  | .non, e, _, _ => by cases e <;> simp [eqv]
  | .bl _, _, h, _ => by simp [D.nb] at h
  | .int _, e, _, h => by
    cases e with
    | bl b => simp [D.nb] at h
    | _ => simp [eqv]
  | .str x, e, _, _ => by cases e <;> simp [eqv]
  | .tup xs, e, h, h2 => by
    cases e with
    | tup ys => simp only [eqv, D.tup.injEq]; exact eqvAll_iff xs ys (by simpa [D.nb] using h) (by simpa [D.nb] using h2)
    | _ => simp [eqv]
  | .lst xs, e, h, h2 => by
    cases e with
    | lst ys => simp only [eqv, D.lst.injEq]; exact eqvAll_iff xs ys (by simpa [D.nb] using h) (by simpa [D.nb] using h2)
    | _ => simp [eqv]
theorem eqvAll_iff : ∀ (ds es : List D), nbAll ds = true → nbAll es = true → (eqvAll ds es = true ↔ ds = es)
  | [], es, _, _ => by cases es <;> simp [eqvAll]
  | d :: ds, es, h, h2 => by
    cases es with
    | nil => simp [eqvAll]
    | cons e es =>
      simp only [nbAll, Bool.and_eq_true] at h h2
      simp only [eqvAll, Bool.and_eq_true, List.cons.injEq, eqv_iff d e h.1 h2.1, eqvAll_iff ds es h.2 h2.2]
end
theorem nbAll_iff {ds : List D} : nbAll ds = true ↔ ∀ d ∈ ds, d.nb = true := by
  induction ds with
  | nil => simp [nbAll]
  | cons d ds ih => simp [nbAll, ih]
theorem Rule.nb (r : Rule) : r.d.nb = true := by cases r <;> simp [Rule.d, D.nb, nbAll]
theorem Rule.lf (r : Rule) : r.d.lf = true := by cases r <;> simp [Rule.d]
theorem eqv_rule (a b : Rule) : eqv a.d b.d = decide (a = b) := by
  rw [Bool.eq_iff_iff, eqv_iff _ _ a.nb b.nb, decide_eq_true_eq]
  exact ⟨Rule.d_inj, fun h => by rw [h]⟩
theorem Rule.okN {r : Rule} (h : r.ok = true) (n : Nat) : r.d.okN (n + 1) = true := by
  have := Rule.nice h
  cases r <;> (simp only [Rule.d, D.okN]; exact nice_ok this n)
theorem rules_ok {rs : List Rule} (h : ∀ r ∈ rs, r.ok = true) (n : Nat) : okAll (n + 1) (rs.map Rule.d) = true := by
  rw [okAll_iff]
  intro d hd
  obtain ⟨r, hr, rfl⟩ := List.mem_map.mp hd
  exact Rule.okN (h r hr) n
theorem any_rule (rs : List Rule) (r : Rule) : ((rs.map Rule.d).any fun z => eqv z r.d) = decide (r ∈ rs) := by
  rw [Bool.eq_iff_iff]
  simp only [List.any_eq_true, List.mem_map, decide_eq_true_eq]
  constructor
  · rintro ⟨d, ⟨a, ha, rfl⟩, h⟩
    rw [eqv_rule, decide_eq_true_eq] at h
    exact h ▸ ha
  · intro h
    exact ⟨r.d, ⟨r, h, rfl⟩, by rw [eqv_rule]; simp⟩
theorem inB_tup {d : D} {ds : List D} (h1 : d.okN 64 = true) (h2 : okAll 63 ds = true) : inB d (.tup ds) = some (ds.any fun z => eqv z d) := by
  have h : (d.okN 64 && okAll 63 ds) = true := by rw [h1, h2]; rfl
  cases d with
  | str l =>
    cases l with
    | nil => simp only [inB]; rw [if_pos h]
    | cons c r => cases r <;> (simp only [inB]; rw [if_pos h])
  | _ => simp only [inB]; rw [if_pos h]
theorem lfAll_rules (rs : List Rule) : lfAll (rs.map Rule.d) = true := by
  rw [lfAll_iff]
  intro d hd
  obtain ⟨r, hr, rfl⟩ := List.mem_map.mp hd
  exact r.lf
theorem f_lawrules (c : Int) : ∃ rs : List Rule, f_law_rules [.int c] = .ok (.tup (rs.map Rule.d)) ∧ 1 ≤ rs.length ∧ rs.length ≤ 4 ∧ rs.Nodup ∧ ∀ r ∈ rs, r.ok = true := by
  obtain ⟨n, hn, hn4⟩ := f_mixL c 9857 4 (by decide) (by decide) (by decide)
  have hit : ∀ e : En, getE 0 e = .ok (.int c) → itF asRng1 (consF (bopF addO (cD (.int 1)) (fnF 3 f_law_mix (consF (getE 0) (consF (cD (.int 9857)) (consF (cD (.int 4)) nilF))))) nilF) e = .ok (rgD 0 (n + 1)) := by
    intro e he
    have e1 : (1 : Int) + (n : Nat) = ((n + 1 : Nat) : Int) := by omega
    simp only [itF_ap, consF_ap, bopF_ap, cD_ap, rb_ok, fnF_ap, he, nilF_ap, List.length_cons, List.length_nil, if_true, hn, noX_ok, addO_ii, ofO_some, e1]
    exact asRng1_nat (n := n + 1) (by omega)
  let P : Nat → En → Prop := fun i e => ∃ (rs : List Rule) (x y : Sl), e = [.dat (.int c), .dat (.tup (rs.map Rule.d)), x, y] ∧ noOwn [x, y] = true ∧ rs.length ≤ i ∧ (1 ≤ i → 1 ≤ rs.length) ∧ rs.Nodup ∧ ∀ r ∈ rs, r.ok = true
  obtain ⟨e', h1, rs, x, y, rfl, _, h2, h3, h4, h5⟩ := forF_inv (t := .nm 2) (B := (seqS (asgS (.nm 3) (fnF 1 f_law_rule (consF (bopF addO (getE 0) (bopF mulI (cD (.int 19)) (getE 2))) nilF)))
  (ifS (tstF (bopF ninO (getE 3) (getE 1))) (asgS (.nm 1) (bopF addO (getE 1) (tupF (consF (getE 3) nilF)))) nilS))) (items := rgD 0 (n + 1)) P (fun i d e hd he => by
      obtain ⟨rs, x, y, rfl, hno, h2, h3, h4, h5⟩ := he
      have hi : i < n + 1 := by have := (List.getElem?_eq_some_iff.mp hd).1; simpa [rgD] using this
      have hd' : d = .int (0 + (i : Nat)) := by
        simp [rgD, hi] at hd
        rw [← hd]; simp
      subst hd'
      obtain ⟨r, hr, hro⟩ := f_lawrule (c + 19 * (0 + (i : Nat)))
      have hm : ((19 : Int).natAbs < 2 ^ 64 ∨ (0 + ((i : Nat) : Int)).natAbs < 2 ^ 64) := .inl (by decide)
      have hin := inB_tup (d := r.d) (ds := rs.map Rule.d) (Rule.okN hro 63) (rules_ok h5 62)
      rw [any_rule] at hin
      refine ⟨[.dat (.int c), .dat (.tup (rs.map Rule.d)), .dat (.int (0 + (i : Nat))), y], ?_⟩
      by_cases hr2 : r ∈ rs
      · rw [decide_eq_true hr2] at hin
        refine ⟨[.dat (.int c), .dat (.tup (rs.map Rule.d)), .dat (.int (0 + (i : Nat))), .dat r.d], by simp [setN], ?_, rs, _, _, rfl, by simp, by omega, fun _ => by have := List.length_pos_of_mem hr2; omega, h4, h5⟩
        simp only [seqS_ap, asgS_ap, fnF_ap, consF_ap, bopF_ap, getE_dat, getE_1, getE_2, getE_3, rb_ok, cD_ap, mulI_ii, if_pos hm, ofO_some, addO_ii, nilF_ap, List.length_cons, List.length_nil, hr, noX_ok, setT_nm, setN_lf r.lf, List.set, nxS_ok, ifS_ap, tstF_ap, ninO, hin, Option.map_some, isBl_ap, Bool.not_true, Bool.false_eq_true, if_false, nilS_ap, if_true]
      · rw [decide_eq_false hr2] at hin
        have hadd : addO (.tup (rs.map Rule.d)) (.tup [r.d]) = some (.tup ((rs ++ [r]).map Rule.d)) := by
          rw [addO_tt (by rw [slE]; simp; omega)]; simp
        refine ⟨[.dat (.int c), .dat (.tup ((rs ++ [r]).map Rule.d)), .dat (.int (0 + (i : Nat))), .dat r.d], by simp [setN], ?_, rs ++ [r], _, _, rfl, by simp, by simp; omega, fun _ => by simp, ?_, ?_⟩
        · simp only [seqS_ap, asgS_ap, fnF_ap, consF_ap, bopF_ap, getE_dat, getE_1, getE_2, getE_3, rb_ok, cD_ap, mulI_ii, if_pos hm, ofO_some, addO_ii, nilF_ap, List.length_cons, List.length_nil, hr, noX_ok, setT_nm, setN_lf r.lf, List.set, nxS_ok, ifS_ap, tstF_ap, ninO, hin, Option.map_some, isBl_ap, Bool.not_false, if_true, nilS_ap, tupF_ap]
          rw [if_pos (by rw [slE]; decide)]
          simp only [ofO_some, rb_ok, hadd]
          rw [setN_lf (by rw [lf_tup]; exact lfAll_rules _)]
          rfl
        · rw [List.nodup_append]
          refine ⟨h4, by simp, ?_⟩
          intro a ha b hb
          simp at hb
          subst hb
          rintro rfl
          exact hr2 ha
        · intro a ha
          rcases List.mem_append.mp ha with ha | ha
          · exact h5 a ha
          · simp at ha; subst ha; exact hro) (e := [.dat (.int c), .dat (.tup []), .un, .un]) ⟨[], .un, .un, rfl, rfl, Nat.le_refl _, fun h => by omega, by simp, fun _ h => by cases h⟩
  refine ⟨rs, ?_, h3 (by rw [rgD_len]; omega), by rw [rgD_len] at h2; omega, h4, h5⟩
  unfold f_law_rules runD B_law_rules
  have hit' := hit [.dat (.int c), .dat (.tup []), .un, .un] rfl
  simp only [seqS_ap, initE_cons, initE_nil, List.replicate, asgS_ap, tupF_ap, nilF_ap, rb_ok, List.length_nil, setT_nm]
  rw [if_pos (Nat.zero_le _)]
  simp only [ofO_some, rb_ok, setN, lf_tup, lfAll_nil, Bool.true_or, if_true, List.set, nxS_ok, forS_ap, hit', h1, retS_ap, getE_1, getE_dat]
end FM

set_option Elab.async false
set_option linter.all false
set_option maxRecDepth 100000
/-! K01M: the mathematics of law k01. -/
namespace FM
open PySem PyProof.Rows L2
def tFix : List D := [.non, .int 5, .str wTwice, .tup [], .tup [.str wTwice, .int 1], .tup [.str wBlanks, .str []],
  .tup [.str wGreat, .non], .tup [.int 5], .tup [.non, .str [97]], .lst [.str wTwice], .tup [.str [84, 119, 105, 99, 101]],
  .tup [.str wWord, .str wTeh], .tup [.str wWord, .str [], .str [97]], .tup [.str wWord, .str [97, 98, 99, 100, 101, 102, 103], .str [97]],
  .tup [.str wWord, .str wTeh, .str [97, 98, 99, 100, 101, 102, 103]], .tup [.str wWord, .int 5, .str [97]],
  .tup [.str wWord, .str wTeh, .non], .tup [.str wWord, .str [84, 101, 104], .str [97]], .tup [.str wWord, .str [116, 101, 32, 104], .str [97]],
  .tup [.str wWord, .str wTeh, .str []], .tup [.str wWord, .str [116], .str [116, 104], .str []],
  .tup [.str wLong, .int 0], .tup [.str wLong, .int 1], .tup [.str wLong, .int 9], .tup [.str wLong, .int 10],
  .tup [.str wLong, .bl true], .tup [.str wLong, .str [51]], .tup [.str wLong], .tup [.str wLong, .int 3, .int 3],
  .tup [.str wSign, .str []], .tup [.str wSign, .str [33, 33]], .tup [.str wSign, .str [32]], .tup [.str wSign, .non],
  .tup [.str wSign, .str [33]], .tup [.str wSign], .tup [.str wSign, .str [97], .str [98]], .tup [.str [115, 105, 103, 104], .str [33]]]
theorem tFix_nice : tFix.all nice = true := by decide
theorem signs_at {i : Nat} (h : i < 94) : ∃ c, tSigns[i]? = some c ∧ c < 128 := by
  have q : tSigns.all (· < 128) = true := by decide
  have h' : i < tSigns.length := by
    have : tSigns.length = 94 := by decide
    omega
  exact ⟨tSigns[i], List.getElem?_eq_getElem h', of_decide_eq_true (List.all_eq_true.mp q _ (List.getElem_mem h'))⟩
theorem ofO_le {α : Type} {n : Nat} {a : α} (h : n ≤ 1000000) : (ofO (if n ≤ sizeLine then some a else none) : Res α) = .ok a := by
  rw [if_pos (by rw [slE]; omega)]; rfl
theorem addL_ok {a b : List D} (h : a.length + b.length ≤ 1000000) : addL (.lst a) (.lst b) = some (a ++ b) := by
  simp only [addL]
  rw [if_pos (by rw [slE]; omega)]
theorem f_strange (c : Int) : ∃ ts, f_law_strange [.int c] = .ok ts ∧ ∀ t ∈ ts, nice t = true := by
  obtain ⟨zs, h1, h2, h3⟩ := mapM_ex (e := wipeE [.dat (.int c), .dat (.str tSigns), .dat (.lst tFix), .un] [3]) (t := .nm 3) (te := (tupF (consF (cD (.str wSign)) (consF (bopF ixO (getE 1) (fnF 3 f_law_mix (consF (bopF addO (getE 0) (getE 3)) (consF (cD (.int 9817)) (consF (callF lenO (consF (getE 1) nilF)) nilF))))) nilF))))
    (p := fun z => nice z = true) (items := rgD 0 12) fun d hd => by
      simp only [rgD, List.mem_map] at hd
      obtain ⟨i, _, rfl⟩ := hd
      have hl : lenO [.str tSigns] = some (.int 94) := by rw [lenO_str (by rw [slE]; decide)]; rfl
      obtain ⟨r, hr, hr9⟩ := f_mixL (c + (0 + (i : Nat))) 9817 94 (by decide) (by decide) (by decide)
      obtain ⟨x, hx, hl2⟩ := signs_at (i := r) (by omega)
      have e1 : ixO (.str tSigns) (.int (r : Nat)) = some (.str [x]) := by rw [ixO_str (by rw [slE]; decide), atI_n hx]; rfl
      refine ⟨_, .tup [.str wSign, .str [x]], by rw [setT_nm, setN_lf rfl], ?_, by simp, ?_⟩
      · simp only [wipeE_cons, wipeE_nil, List.set, tupF_ap, consF_ap, cD_ap, rb_ok, bopF_ap, getE_1, getE_dat, fnF_ap, getE_3, getE_2, addO_ii, ofO_some, callF_ap, nilF_ap, hl, List.length_cons, List.length_nil, if_true, hr, noX_ok, e1]
        exact ofO_le (by omega)
      · simp only [nice, List.all_cons, List.all_nil, Bool.and_true, niceE]
        simp [hl2]
        decide
  refine ⟨tFix ++ zs, ?_, ?_⟩
  · have e0 : compF [3] (itF asRng1 (consF (cD (.int 12)) nilF)) (.nm 3) yesF (tupF (consF (cD (.str wSign)) (consF (bopF ixO (getE 1) (fnF 3 f_law_mix (consF (bopF addO (getE 0) (getE 3)) (consF (cD (.int 9817)) (consF (callF lenO (consF (getE 1) nilF)) nilF))))) nilF))) [.dat (.int c), .dat (.str tSigns), .dat (.lst tFix), .un] = .ok zs := by
      refine compF_ok (items := rgD 0 12) ?_ (by rw [rgD_len, slE]; omega) h1
      simp only [itF_ap, consF_ap, cD_ap, rb_ok, nilF_ap]
      exact asRng1_nat (n := 12) (by omega)
    have hz : zs.length = 12 := by rw [h2, rgD_len]
    have ea : addL (.lst tFix) (.lst zs) = some (tFix ++ zs) := addL_ok (by rw [hz]; decide)
    have no : ∀ x : D, noOwn [.dat (.int c), .dat (.str tSigns), .dat x, .un] = true := fun x => by simp
    unfold f_law_strange runL B_law_strange
    simp only [seqS_ap, initE_cons, initE_nil, List.replicate, asgS_ap, fnF_ap, nilF_ap, rb_ok, List.length_nil, if_true, f_signs, noX_ok, setT_nm, setN_lf lf_str, List.set, nxS_ok, asgL_ap, lstF_ap, consF_ap, cD_ap, tupF_ap, List.length_cons, ofO_le (by omega : 0 + 1 ≤ 1000000), mkL_ap, bopN_ap, getE_2, getE_1, getE_dat, ofO_le (by omega : 0 ≤ 1000000), ofO_le (by omega : 0 + 1 + 1 ≤ 1000000), ofO_le (by omega : 0 + 1 + 1 + 1 ≤ 1000000), ofO_le (by omega : 0 + 1 + 1 + 1 + 1 ≤ 1000000), ofO_le (by omega : 0 + 1 + 1 + 1 + 1 + 1 ≤ 1000000), ofO_le (by omega : 0 + 1 + 1 + 1 + 1 + 1 + 1 ≤ 1000000), noOwn_dat, noOwn_un, noOwn_nil, Bool.or_true]
    simp only [addL, List.length_cons, List.length_nil, Nat.reduceAdd, slE, Nat.reduceLeDiff, if_true, ofO_some, rb_ok, List.cons_append, List.nil_append, Bool.or_true, List.set, noOwn_dat, noOwn_un, noOwn_nil, retN_ap, bopN_ap, getE_2, getE_1, getE_dat, mkL_ap]
    unfold tFix at e0 ea
    simp only [e0, rb_ok]
    simp only [addL, slE] at ea
    simp only [ea, ofO_some, rb_ok]
    rfl
  · intro t ht
    rcases List.mem_append.mp ht with ht | ht
    · exact List.all_eq_true.mp tFix_nice t ht
    · exact h3 t ht
theorem rule_of {d : D} (h : isRuleB d = true) : ∃ r : Rule, d = r.d ∧ r.ok = true := by
  cases d with
  | tup ds =>
    cases ds with
    | nil => simp [isRuleB] at h
    | cons a rest =>
      cases a with
      | str w =>
        simp only [isRuleB] at h
        split at h
        · rename_i h1
          have : rest = [] := by simpa using h
          subst this
          rcases h1 with rfl | rfl | rfl
          · exact ⟨.twice, rfl, rfl⟩
          · exact ⟨.blanks, rfl, rfl⟩
          · exact ⟨.great, rfl, rfl⟩
        · split at h
          · rename_i h2
            subst h2
            split at h
            · rename_i a b
              simp only [Bool.and_eq_true] at h
              cases a <;> simp [smallB] at h
              cases b <;> simp [smallB] at h
              rename_i w v
              refine ⟨.word w v, rfl, ?_⟩
              simp [Rule.ok, h]
              exact ⟨h.1.2.2, h.2.2⟩
            · cases h
          · split at h
            · rename_i h3
              subst h3
              split at h
              · rename_i a
                cases a <;> simp [longB] at h
                rename_i n
                exact ⟨.long n, rfl, by simp [Rule.ok, h]⟩
              · cases h
            · split at h
              · rename_i h4
                subst h4
                split at h
                · rename_i a
                  unfold signB at h
                  split at h
                  · rename_i c
                    exact ⟨.sign c, rfl, h⟩
                  · cases h
                · cases h
              · cases h
      | _ => simp [isRuleB] at h
  | _ => simp [isRuleB] at h
def Rule.key : Rule → List Key
  | .twice => [.inr (S wTwice)]
  | .blanks => [.inr (S wBlanks)]
  | .great => [.inr (S wGreat)]
  | .word w r => [.inr (S wWord), .inr (S w), .inr (S r)]
  | .long n => [.inr (S wLong), .inl n]
  | .sign c => [.inr (S wSign), .inr (S [c])]
theorem Rule.keys (r : Rule) : keysO r.d = some r.key := by cases r <;> rfl
theorem S_inj {a b : List Nat} (h : S a = S b) : a = b := by
  have : (S a).cps.toList = (S b).cps.toList := by rw [h]
  simpa using this
theorem Rule.key_inj {a b : Rule} (h : a.key = b.key) : a = b := by
  have e : ∀ {x y : List Nat}, (Sum.inr (S x) : Key) = Sum.inr (S y) → x = y := fun h => S_inj (Sum.inr.inj h)
  cases a <;> cases b <;> simp only [Rule.key, List.cons.injEq, and_true, reduceCtorEq, and_false, false_and, List.nil_eq, List.cons_ne_nil] at h <;> first
    | rfl
    | exact absurd (e h) (by decide)
    | exact absurd (e h.1) (by decide)
    | (rw [e h.2.1, e h.2.2])
    | (have := e h.2; simp at this; rw [this])
    | (have := Sum.inl.inj h.2; rw [this])
theorem mapM_keys : ∀ rs : List Rule, (rs.map Rule.d).mapM keysO = some (rs.map Rule.key)
  | [] => rfl
  | r :: rs => by
    rw [List.map_cons, List.mapM_cons, Rule.keys, mapM_keys rs]
    rfl
theorem addAll_len : ∀ (l acc : List (List Key)), (addAll acc l).length ≤ acc.length + l.length ∧ ((addAll acc l).length = acc.length + l.length ↔ l.Nodup ∧ ∀ k ∈ l, k ∉ acc)
  | [], acc => by simp [addAll]
  | k :: l, acc => by
    unfold addAll
    by_cases h : k ∈ acc
    · rw [if_pos h]
      obtain ⟨h1, h2⟩ := addAll_len l acc
      refine ⟨by simp; omega, ?_⟩
      constructor
      · intro e; simp at e; omega
      · intro e; exact absurd h (e.2 k (by simp))
    · rw [if_neg h]
      obtain ⟨h1, h2⟩ := addAll_len l (acc ++ [k])
      simp only [List.length_append, List.length_cons, List.length_nil] at h1 h2 ⊢
      refine ⟨by omega, ?_⟩
      rw [show acc.length + (l.length + 1) = acc.length + (0 + 1) + l.length by omega, h2, List.nodup_cons]
      constructor
      · rintro ⟨q1, q2⟩
        refine ⟨⟨fun hm => q2 k hm (by simp), q1⟩, fun x hx => ?_⟩
        rcases List.mem_cons.mp hx with rfl | hx
        · exact h
        · exact fun z => q2 x hx (by simp [z])
      · rintro ⟨⟨q1, q2⟩, q3⟩
        refine ⟨q2, fun x hx z => ?_⟩
        rcases List.mem_append.mp z with z | z
        · exact q3 x (by simp [hx]) z
        · simp at z; subst z; exact q1 hx
theorem lenSet_rules {rs : List Rule} (h : rs.length ≤ 4) : ∃ m : Nat, lenSetR (.tup (rs.map Rule.d)) = some (.int (m : Nat)) ∧ (m = rs.length ↔ rs.Nodup) := by
  refine ⟨(addAll [] (rs.map Rule.key)).length, ?_, ?_⟩
  · simp only [lenSetR, mapM_keys]
    rw [if_pos (by simpa using h)]
  · have := (addAll_len (rs.map Rule.key) []).2
    simp only [List.length_map, List.length_nil, Nat.zero_add, List.not_mem_nil, not_false_eq_true, implies_true, and_true] at this
    rw [this]
    constructor
    · exact fun q => List.Pairwise.of_map Rule.key (fun a b hne e => hne (by rw [e])) q
    · exact fun q => List.Pairwise.map Rule.key (fun a b hne e => hne (Rule.key_inj e)) q
theorem rules_of : ∀ {ds : List D}, ds.all isRuleB = true → ∃ rs : List Rule, ds = rs.map Rule.d ∧ ∀ r ∈ rs, r.ok = true
  | [], _ => ⟨[], rfl, fun _ h => by cases h⟩
  | d :: ds, h => by
    simp only [List.all_cons, Bool.and_eq_true] at h
    obtain ⟨r, rfl, hr⟩ := rule_of h.1
    obtain ⟨rs, rfl, hrs⟩ := rules_of h.2
    refine ⟨r :: rs, rfl, fun x hx => ?_⟩
    rcases List.mem_cons.mp hx with rfl | hx
    · exact hr
    · exact hrs x hx
/-- what are_rules tells -/
theorem f_are {ds : List D} (hn : ∀ d ∈ ds, nice d = true) : ∃ b, f_are_rules [.tup ds] = .ok (.bl b) ∧
    (b = true ↔ 1 ≤ ds.length ∧ ds.length ≤ 4 ∧ ∃ rs : List Rule, ds = rs.map Rule.d ∧ (∀ r ∈ rs, r.ok = true) ∧ rs.Nodup) := by
  unfold f_are_rules runD B_are_rules
  by_cases h1 : 1 ≤ ds.length
  rotate_left
  · refine ⟨false, ?_, by simp; intro h; omega⟩
    have : ds = [] := List.eq_nil_of_length_eq_zero (by omega)
    subst this
    simp [seqS_ap, isiO]
  have h1' : (1 : Int) ≤ (ds.length : Nat) := by omega
  by_cases h2 : ds.length ≤ 4
  rotate_left
  · refine ⟨false, ?_, by simp; omega⟩
    have h2' : ¬ ((ds.length : Nat) : Int) ≤ 4 := by omega
    simp [seqS_ap, isiO, h1', h2']
  have h2' : ((ds.length : Nat) : Int) ≤ 4 := by omega
  have e1 : compF [1] (itF asTup (getE 0)) (.nm 1) yesF (fnF 1 f_is_rule (consF (getE 1) nilF)) [.dat (.tup ds), .un] = .ok (ds.map fun d => .bl (isRuleB d)) := by
    refine compF_ok (items := ds) (by simp) (by rw [slE]; omega) (lcF_map fun d hd => ?_)
    refine ⟨_, by rw [setT_nm, setN_no (by simp)], ?_, rfl⟩
    simp [f_rule (hn d hd)]
  by_cases h3 : ds.all isRuleB = true
  · obtain ⟨rs, rfl, hrs⟩ := rules_of h3
    rw [List.length_map] at h1 h2 h1' h2'
    obtain ⟨m, hm, hiff⟩ := lenSet_rules (rs := rs) h2
    refine ⟨((m : Nat) : Int) == ((rs.length : Nat) : Int), ?_, ?_⟩
    · have h1'' : 1 ≤ rs.length := h1
      have h3' : ∀ x ∈ rs, isRuleB x.d = true := fun x hx => Rule.isRule (hrs x hx)
      simp only [seqS_ap, initE_cons, initE_nil, List.replicate, ifS_ap, orF_ap, notF_ap, truF_ap, uopF_ap, getE_dat, rb_ok, isiO, ofO_some, truD_bl, tstF_ap, chF_ap, cD_ap, callF_ap, consF_ap, nilF_ap, lenO_tup, leO_ii, isBl_ap, mkL_ap, e1, allO, blsO_map, Option.map_some, List.length_map]
      have hall : ((List.map isRuleB (List.map Rule.d rs)).all id) = true := by
        rw [List.all_eq_true]
        intro x hx
        simp only [List.mem_map] at hx
        obtain ⟨d, ⟨r, hr, rfl⟩, rfl⟩ := hx
        exact h3' r hr
      simp only [decide_eq_true h1', decide_eq_true h2', hall, if_true, Bool.not_true, Bool.false_eq_true, if_false, nilS_ap, rb_ok, ofO_some, isBl_ap, truD_bl, beq_self_eq_true, retS_ap, bopF_ap, uopF_ap, getE_dat, hm, callF_ap, consF_ap, nilF_ap, lenO_tup, List.length_map, eqO_ii]
    · rw [beq_iff_eq]
      constructor
      · intro e
        exact ⟨by simpa using h1, by simpa using h2, rs, rfl, hrs, hiff.mp (by omega)⟩
      · rintro ⟨_, _, rs', e, _, hnd⟩
        have : rs = rs' := List.map_inj_right (f := Rule.d) (fun a b => Rule.d_inj) |>.mp e
        subst this
        rw [hiff.mpr hnd]
  · refine ⟨false, ?_, ?_⟩
    · have hall : ((List.map isRuleB ds).all id) = false := by
        rw [Bool.eq_false_iff]
        intro q
        apply h3
        rw [List.all_map] at q
        exact q
      simp only [seqS_ap, initE_cons, initE_nil, List.replicate, ifS_ap, orF_ap, notF_ap, truF_ap, uopF_ap, getE_dat, rb_ok, isiO, ofO_some, truD_bl, tstF_ap, chF_ap, cD_ap, callF_ap, consF_ap, nilF_ap, lenO_tup, leO_ii, isBl_ap, mkL_ap, e1, allO, blsO_map, Option.map_some, decide_eq_true h1', decide_eq_true h2', hall]
      simp
    · simp only [Bool.false_eq_true, false_iff]
      rintro ⟨_, _, rs, rfl, hrs, _⟩
      apply h3
      rw [List.all_map, List.all_eq_true]
      exact fun r hr => Rule.isRule (hrs r hr)
theorem asg_no {i : Nat} {f : En → Res D} {e : En} {d : D} (h : noOwn e = true) (hf : f e = .ok d) : asgS (.nm i) f e = .ok (.nx (e.set i (.dat d))) := by
  simp [hf, setN_no h]
theorem f_are_lst (l : List D) : f_are_rules [.lst l] = .ok (.bl false) := by
  unfold f_are_rules runD B_are_rules
  simp [seqS_ap, isiO]
theorem f_are_non : f_are_rules [.non] = .ok (.bl false) := by
  unfold f_are_rules runD B_are_rules
  simp [seqS_ap, isiO]
theorem cut_lo {α : Type} (l : List α) (i : Nat) : cutL l none (some (i : Nat)) = l.take i := by
  unfold cutL
  rw [HT.sIx_none, HT.sIx_nat, List.drop_zero, Nat.sub_zero]
  by_cases h : i ≤ l.length
  · rw [Nat.min_eq_left h]
  · rw [Nat.min_eq_right (by omega), List.take_of_length_le (by omega), List.take_of_length_le (by omega)]
theorem cut_hi {α : Type} (l : List α) (i : Nat) : cutL l (some (i : Nat)) none = l.drop i := by
  unfold cutL
  rw [HT.sIx_none, HT.sIx_nat]
  by_cases h : i ≤ l.length
  · rw [Nat.min_eq_left h, List.take_of_length_le (by simp)]
  · rw [Nat.min_eq_right (by omega), List.drop_of_length_le (by omega), List.drop_of_length_le (by omega)]
    simp
noncomputable def B_inner : En → Res Fl := (seqS (asgS (.nm 6) (bopF addO (bopF addO (slF slO (getE 3) noP (soP (getE 4))) (tupF (consF (getE 5) nilF))) (slF slO (getE 3) (soP (bopF addO (getE 4) (cD (.int 1)))) noP)))
  (seqS (asgS (.nm 7) (bopF addO (slF slO (getE 3) noP (soP (getE 4))) (slF slO (getE 3) (soP (bopF addO (getE 4) (cD (.int 1)))) noP)))
  (seqS (asgS (.nm 8) (andV (fnF 1 f_law_is_rule (consF (getE 5) nilF)) (bopF eqO (mkL (compF [11] (itF asTup (getE 7)) (.nm 11) (tstF (bopF eqO (getE 11) (getE 5))) (getE 11))) (mkL (lstF nilF)))))
  (seqS (asgS (.nm 9) (fnF 1 f_are_rules (consF (getE 6) nilF)))
  (ifS (orF (andF (tstF (bopF isnO (getE 9) (cD (.bl true)))) (truF (getE 8))) (andF (tstF (bopF isnO (getE 9) (cD (.bl false)))) (notF (truF (getE 8))))) (retS (cD (.bl false))) nilS)))))
theorem nodup_mid {α : Type} {a b : List α} {x : α} : (a ++ x :: b).Nodup ↔ x ∉ a ++ b ∧ (a ++ b).Nodup := by
  rw [List.perm_middle.nodup_iff, List.nodup_cons]
theorem inner_ok {rs : List Rule} (hrs : ∀ r ∈ rs, r.ok = true) (hnd : rs.Nodup) (hlen : rs.length ≤ 4) {i : Nat} (hi : i < rs.length) {x : D} (hx : nice x = true) {a b c : D} {s6 s7 s8 s9 s10 s11 s12 : Sl} (hno : noOwn [s6, s7, s8, s9, s10, s11, s12] = true) :
    ∃ t6 t7 t8 t9 : D, B_inner [.dat a, .dat b, .dat c, .dat (.tup (rs.map Rule.d)), .dat (.int (i : Nat)), .dat x, s6, s7, s8, s9, s10, s11, s12] =
      .ok (.nx [.dat a, .dat b, .dat c, .dat (.tup (rs.map Rule.d)), .dat (.int (i : Nat)), .dat x, .dat t6, .dat t7, .dat t8, .dat t9, s10, s11, s12]) := by
  have hn2 : noOwn [s10, s11, s12] = true := by
    simp only [noOwn, List.all_cons, List.all_nil, Bool.and_eq_true] at hno ⊢
    simp [hno]
  have hn3 : noOwn [s7, s8, s9, s10, s11, s12] = true := by
    simp only [noOwn, List.all_cons, List.all_nil, Bool.and_eq_true] at hno ⊢
    simp [hno]
  have hn4 : noOwn [s8, s9, s10, s11, s12] = true := by
    simp only [noOwn, List.all_cons, List.all_nil, Bool.and_eq_true] at hno ⊢
    simp [hno]
  have hn5 : noOwn [s9, s10, s11, s12] = true := by
    simp only [noOwn, List.all_cons, List.all_nil, Bool.and_eq_true] at hno ⊢
    simp [hno]
  have ci : ((i : Nat) : Int) + 1 = ((i + 1 : Nat) : Int) := by omega
  let rest := rs.take i ++ rs.drop (i + 1)
  have hrest : ∀ r ∈ rest, r ∈ rs := fun r hr => by
    rcases List.mem_append.mp hr with h | h
    · exact List.mem_of_mem_take h
    · exact List.mem_of_mem_drop h
  have hl1 : (rs.take i).length = i := by simp; omega
  have hl2 : (rs.drop (i + 1)).length = rs.length - (i + 1) := by simp
  have hndr : rest.Nodup := by
    have : rest.Sublist rs := by
      have h1 := (List.Sublist.refl (rs.take i)).append ((List.drop_sublist 1 (rs.drop i)))
      rw [List.drop_drop, List.take_append_drop] at h1
      exact h1
    exact hnd.sublist this
  have e6 : (bopF addO (bopF addO (slF slO (getE 3) noP (soP (getE 4))) (tupF (consF (getE 5) nilF))) (slF slO (getE 3) (soP (bopF addO (getE 4) (cD (.int 1)))) noP)) [.dat a, .dat b, .dat c, .dat (.tup (rs.map Rule.d)), .dat (.int (i : Nat)), .dat x, s6, s7, s8, s9, s10, s11, s12] = .ok (.tup ((rs.take i).map Rule.d ++ [x] ++ (rs.drop (i + 1)).map Rule.d)) := by
    simp only [bopF_ap, slF_ap, getE_3, getE_2, getE_1, getE_dat, rb_ok, noP_ap, soP_ap, getE_4, intO_ap, slO_tup, cut_lo, ofO_some, tupF_ap, consF_ap, getE_5, nilF_ap, List.length_cons, List.length_nil, ofO_le (by omega : 0 + 1 ≤ 1000000), cD_ap, addO_ii, ci, cut_hi]
    rw [addO_tt (by rw [slE]; simp; omega)]
    simp only [ofO_some, rb_ok]
    rw [addO_tt (by rw [slE]; simp; omega)]
    simp only [ofO_some, List.map_take, List.map_drop]
  have e7 : (bopF addO (slF slO (getE 3) noP (soP (getE 4))) (slF slO (getE 3) (soP (bopF addO (getE 4) (cD (.int 1)))) noP)) [.dat a, .dat b, .dat c, .dat (.tup (rs.map Rule.d)), .dat (.int (i : Nat)), .dat x, .dat (.tup ((rs.take i).map Rule.d ++ [x] ++ (rs.drop (i + 1)).map Rule.d)), s7, s8, s9, s10, s11, s12] = .ok (.tup (rest.map Rule.d)) := by
    simp only [bopF_ap, slF_ap, getE_3, getE_2, getE_1, getE_dat, rb_ok, noP_ap, soP_ap, getE_4, intO_ap, slO_tup, cut_lo, ofO_some, cD_ap, addO_ii, ci, cut_hi]
    rw [addO_tt (by rw [slE]; simp; omega)]
    simp only [ofO_some, List.map_take, List.map_drop, rest, List.map_append]
  -- due
  have e8 : ∃ due : Bool, (andV (fnF 1 f_law_is_rule (consF (getE 5) nilF)) (bopF eqO (mkL (compF [11] (itF asTup (getE 7)) (.nm 11) (tstF (bopF eqO (getE 11) (getE 5))) (getE 11))) (mkL (lstF nilF))))
      [.dat a, .dat b, .dat c, .dat (.tup (rs.map Rule.d)), .dat (.int (i : Nat)), .dat x, .dat (.tup ((rs.take i).map Rule.d ++ [x] ++ (rs.drop (i + 1)).map Rule.d)), .dat (.tup (rest.map Rule.d)), s8, s9, s10, s11, s12] = .ok (.bl due) ∧
      (due = true ↔ ∃ r : Rule, x = r.d ∧ r.ok = true ∧ r ∉ rest) := by
    cases hb : isRuleB x with
    | false =>
      refine ⟨false, by simp [f_lrule hx, hb], ?_⟩
      simp only [Bool.false_eq_true, false_iff]
      rintro ⟨r, rfl, hr, _⟩
      rw [Rule.isRule hr] at hb
      cases hb
    | true =>
      obtain ⟨r, rfl, hr⟩ := rule_of hb
      have ec : compF [11] (itF asTup (getE 7)) (.nm 11) (tstF (bopF eqO (getE 11) (getE 5))) (getE 11) [.dat a, .dat b, .dat c, .dat (.tup (rs.map Rule.d)), .dat (.int (i : Nat)), .dat r.d, .dat (.tup ((rs.take i).map Rule.d ++ [r.d] ++ (rs.drop (i + 1)).map Rule.d)), .dat (.tup (rest.map Rule.d)), s8, s9, s10, s11, s12] = .ok (((rest.map Rule.d).filter fun z => eqv z r.d).map id) := by
        refine compF_ok (items := rest.map Rule.d) (by simp) (by rw [slE]; simp [rest]; omega) (lcF_filter fun d hd => ?_)
        obtain ⟨q, hq, rfl⟩ := List.mem_map.mp hd
        refine ⟨_, by rw [setT_nm, setN_lf q.lf], ?_, fun _ => ⟨by simp, q.lf⟩⟩
        have : eqO q.d r.d = some (.bl (eqv q.d r.d)) := by
          unfold eqO eqB
          rw [if_neg (by cases q <;> cases r <;> simp [Rule.d, scalD]), if_pos (by rw [Rule.okN (hrs q (hrest q hq)) 63, Rule.okN hr 63]; rfl)]
          rfl
        simp [this]
      have el : eqO (.lst (((rest.map Rule.d).filter fun z => eqv z r.d).map id)) (.lst []) = some (.bl (((rest.map Rule.d).filter fun z => eqv z r.d).map id).isEmpty) := by
        have hk : okAll 63 (((rest.map Rule.d).filter fun z => eqv z r.d).map id) = true := by
          rw [okAll_iff]
          intro d hd
          simp only [List.map_id_fun, id_eq, List.mem_filter, List.mem_map] at hd
          obtain ⟨⟨q, hq, rfl⟩, _⟩ := hd
          exact Rule.okN (hrs q (hrest q hq)) 62
        unfold eqO eqB
        rw [if_neg (by simp [scalD]), if_pos (by simp only [D.okN, hk, okAll]; rfl), eqv_lst_nil]
        rfl
      refine ⟨(((rest.map Rule.d).filter fun z => eqv z r.d).map id).isEmpty, ?_, ?_⟩
      · simp only [andV_ap, fnF_ap, consF_ap, getE_5, getE_4, getE_3, getE_2, getE_1, getE_dat, rb_ok, nilF_ap, List.length_cons, List.length_nil, if_true, f_lrule hx, hb, noX_ok, isBl_ap, bopF_ap, mkL_ap, ec, lstF_ap, ofO_le (by omega : 0 ≤ 1000000), el, ofO_some]
      · rw [List.map_id_fun, id, List.isEmpty_iff, List.filter_eq_nil_iff]
        constructor
        · intro h
          refine ⟨r, rfl, hr, fun hm => h r.d (List.mem_map.mpr ⟨r, hm, rfl⟩) ?_⟩
          rw [eqv_rule]; simp
        · rintro ⟨r', e, _, hm⟩ d hd
          have := Rule.d_inj e
          subst this
          obtain ⟨q, hq, rfl⟩ := List.mem_map.mp hd
          rw [eqv_rule]
          simp only [decide_eq_true_eq]
          rintro rfl
          exact hm hq
  obtain ⟨due, e8, hdue⟩ := e8
  -- told
  have hnice : ∀ d ∈ (rs.take i).map Rule.d ++ [x] ++ (rs.drop (i + 1)).map Rule.d, nice d = true := fun d hd => by
    simp only [List.mem_append, List.mem_map, List.mem_singleton] at hd
    rcases hd with (⟨r, hr, rfl⟩ | rfl) | ⟨r, hr, rfl⟩
    · exact Rule.nice (hrs r (List.mem_of_mem_take hr))
    · exact hx
    · exact Rule.nice (hrs r (List.mem_of_mem_drop hr))
  obtain ⟨told, e9, htold⟩ := f_are hnice
  have htd : told = due := by
    rw [Bool.eq_iff_iff, htold, hdue]
    constructor
    · rintro ⟨_, _, rs', e, hok, hnd'⟩
      have e1 : (rs'.take i).map Rule.d = (rs.take i).map Rule.d := by
        have := congrArg (List.take i) e
        rw [List.append_assoc, List.take_left' (by rw [List.length_map]; exact hl1), ← List.map_take] at this
        exact this.symm
      have e2 : (rs'.drop i).map Rule.d = [x] ++ (rs.drop (i + 1)).map Rule.d := by
        have := congrArg (List.drop i) e
        rw [List.append_assoc, List.drop_left' (by rw [List.length_map]; exact hl1), ← List.map_drop] at this
        exact this.symm
      have e1' : rs'.take i = rs.take i := List.map_inj_right (f := Rule.d) (fun a b => Rule.d_inj) |>.mp e1
      cases hd : rs'.drop i with
      | nil => rw [hd] at e2; simp at e2
      | cons r q =>
        rw [hd] at e2
        simp only [List.map_cons, List.cons_append, List.nil_append, List.cons.injEq] at e2
        have e3 : q = rs.drop (i + 1) := List.map_inj_right (f := Rule.d) (fun a b => Rule.d_inj) |>.mp e2.2
        have er : rs' = rs.take i ++ r :: rs.drop (i + 1) := by
          rw [← List.take_append_drop i rs', e1', hd, e3]
        have hr : r ∈ rs' := by rw [er]; simp
        refine ⟨r, e2.1.symm, hok r hr, fun hm => ?_⟩
        rw [er] at hnd'
        exact (nodup_mid.mp hnd').1 hm
    · rintro ⟨r, rfl, hr, hm⟩
      refine ⟨by simp; omega, by simp; omega, rs.take i ++ r :: rs.drop (i + 1), by simp, ?_, ?_⟩
      · intro q hq
        rcases List.mem_append.mp hq with hq | hq
        · exact hrs q (List.mem_of_mem_take hq)
        · rcases List.mem_cons.mp hq with rfl | hq
          · exact hr
          · exact hrs q (List.mem_of_mem_drop hq)
      · exact nodup_mid.mpr ⟨hm, hndr⟩
  refine ⟨.tup ((rs.take i).map Rule.d ++ [x] ++ (rs.drop (i + 1)).map Rule.d), .tup (rest.map Rule.d), .bl due, .bl told, ?_⟩
  unfold B_inner
  rw [seqS_nx (asg_no (by simp [hno]) e6)]
  simp only [List.set]
  rw [seqS_nx (asg_no (by simp [hn3]) e7)]
  simp only [List.set]
  rw [seqS_nx (asg_no (by simp [hn4]) e8)]
  simp only [List.set]
  rw [seqS_nx (asg_no (d := .bl told) (by simp [hn5]) (by simp only [fnF_ap, consF_ap, getE_6, getE_5, getE_4, getE_3, getE_2, getE_1, getE_dat, rb_ok, nilF_ap, List.length_cons, List.length_nil, if_true, e9, noX_ok]))]
  simp only [List.set]
  subst htd
  cases told <;> simp
noncomputable def B_outer : En → Res Fl := (seqS (asgS (.nm 2) (bopF addO (fnF 2 f_law_cell (consF (getE 0) (consF (bopF modI (getE 1) (cD (.int 9))) nilF))) (bopF mulI (cD (.int 31)) (getE 1))))
  (seqS (asgS (.nm 3) (fnF 1 f_law_rules (consF (getE 2) nilF)))
  (seqS (ifS (orF (tstF (bopF isnO (fnF 1 f_are_rules (consF (getE 3) nilF)) (cD (.bl true)))) (tstF (bopF isnO (fnF 1 f_are_rules (consF (mkL (callF listO (consF (getE 3) nilF))) nilF)) (cD (.bl false))))) (retS (cD (.bl false))) nilS)
  (seqS (ifS (tstF (bopF isnO (fnF 1 f_are_rules (consF (bopF addO (getE 3) (slF slO (getE 3) noP (soP (cD (.int 1))))) nilF)) (cD (.bl false)))) (retS (cD (.bl false))) nilS)
  (seqS (asgS (.nm 4) (fnF 3 f_law_mix (consF (getE 2) (consF (cD (.int 9811)) (consF (callF lenO (consF (getE 3) nilF)) nilF)))))
  (forS (newG (fnF 1 f_law_strange (consF (getE 2) nilF))) (.nm 5) B_inner))))))
theorem isOwn_dat (d : D) : (Sl.dat d).isOwn = false := rfl
theorem noOwn_mem {e : En} : noOwn e = true ↔ ∀ s ∈ e, s.isOwn = false := by simp [noOwn]
theorem f_are_true {rs : List Rule} (hrs : ∀ r ∈ rs, r.ok = true) (hnd : rs.Nodup) (h1 : 1 ≤ rs.length) (h4 : rs.length ≤ 4) : f_are_rules [.tup (rs.map Rule.d)] = .ok (.bl true) := by
  obtain ⟨b, hb, hi⟩ := f_are (ds := rs.map Rule.d) fun d hd => by
    obtain ⟨r, hr, rfl⟩ := List.mem_map.mp hd
    exact Rule.nice (hrs r hr)
  rw [hb, hi.mpr ⟨by simpa using h1, by simpa using h4, rs, rfl, hrs, hnd⟩]
theorem f_are_false {rs : List Rule} (hrs : ∀ r ∈ rs, r.ok = true) (h : ¬ rs.Nodup ∨ 4 < rs.length) : f_are_rules [.tup (rs.map Rule.d)] = .ok (.bl false) := by
  obtain ⟨b, hb, hi⟩ := f_are (ds := rs.map Rule.d) fun d hd => by
    obtain ⟨r, hr, rfl⟩ := List.mem_map.mp hd
    exact Rule.nice (hrs r hr)
  rw [hb]
  cases b with
  | false => rfl
  | true =>
    obtain ⟨_, h4, rs', e, _, hn⟩ := hi.mp rfl
    have : rs = rs' := List.map_inj_right (f := Rule.d) (fun a b => Rule.d_inj) |>.mp e
    subst this
    simp at h4
    rcases h with h | h
    · exact absurd hn h
    · omega
theorem outer_ok (ns : List Int) (k : Nat) {x2 x3 x4 x5 x6 x7 x8 x9 x10 x11 x12 : Sl} (hno : noOwn [x2, x3, x4, x5, x6, x7, x8, x9, x10, x11, x12] = true) :
    ∃ xs : List Sl, xs.length = 11 ∧ noOwn xs = true ∧ B_outer [.dat (.lst (ns.map .int)), .dat (.int (k : Nat)), x2, x3, x4, x5, x6, x7, x8, x9, x10, x11, x12] = .ok (.nx (.dat (.lst (ns.map .int)) :: .dat (.int (k : Nat)) :: xs)) := by
  obtain ⟨c0, hc0⟩ := f_cell ns (k % 9)
  have hk9 : ((k : Nat) : Int) % 9 = ((k % 9 : Nat) : Int) := by omega
  obtain ⟨rs, hr, hr1, hr4, hnd, hrs⟩ := f_lawrules (c0 + 31 * k)
  obtain ⟨i, hi, hilt⟩ := f_mixL (c0 + 31 * k) 9811 (rs.length : Nat) (by decide) (by decide) (by omega)
  obtain ⟨ts, hts, hnice⟩ := f_strange (c0 + 31 * k)
  have hn : ∀ s ∈ [x2, x3, x4, x5, x6, x7, x8, x9, x10, x11, x12], s.isOwn = false := noOwn_mem.mp hno
  simp only [List.mem_cons, List.not_mem_nil, or_false, forall_eq_or_imp, forall_eq] at hn
  have hn5 : noOwn [x5, x6, x7, x8, x9, x10, x11, x12] = true := by simp [noOwn, hn]
  have hn6 : noOwn [x6, x7, x8, x9, x10, x11, x12] = true := by simp [noOwn, hn]
  have e2 : (bopF addO (fnF 2 f_law_cell (consF (getE 0) (consF (bopF modI (getE 1) (cD (.int 9))) nilF))) (bopF mulI (cD (.int 31)) (getE 1))) [.dat (.lst (ns.map .int)), .dat (.int (k : Nat)), x2, x3, x4, x5, x6, x7, x8, x9, x10, x11, x12] = .ok (.int (c0 + 31 * k)) := by
    have hm : ((31 : Int).natAbs < 2 ^ 64 ∨ ((k : Nat) : Int).natAbs < 2 ^ 64) := .inl (by decide)
    have h9 : (0 : Int) < 9 := by decide
    simp only [bopF_ap, fnF_ap, consF_ap, getE_dat, getE_1, rb_ok, cD_ap, modI_ii, if_pos h9, hk9, ofO_some, nilF_ap, List.length_cons, List.length_nil, if_true, hc0, noX_ok, mulI_ii, if_pos hm, addO_ii]
  have P0 : ∀ t5 t6 t7 t8 t9, noOwn [.dat (.lst (ns.map .int)), .dat (.int (k : Nat)), .dat (.int (c0 + 31 * k)), .dat (.tup (rs.map Rule.d)), .dat (.int (i : Nat)), .dat t5, t6, t7, t8, t9, x10, x11, x12] = noOwn [t6, t7, t8, t9, x10, x11, x12] := fun _ _ _ _ _ => by simp
  let P : Nat → En → Prop := fun _ e => ∃ s5 s6 s7 s8 s9 : Sl, e = [.dat (.lst (ns.map .int)), .dat (.int (k : Nat)), .dat (.int (c0 + 31 * k)), .dat (.tup (rs.map Rule.d)), .dat (.int (i : Nat)), s5, s6, s7, s8, s9, x10, x11, x12] ∧ noOwn [s5, s6, s7, s8, s9, x10, x11, x12] = true
  obtain ⟨e', h1, s5, s6, s7, s8, s9, rfl, h2⟩ := forF_inv (t := .nm 5) (B := B_inner) (items := ts) P (fun j d e hd he => by
    obtain ⟨s5, s6, s7, s8, s9, rfl, hs⟩ := he
    have hs' : noOwn [s6, s7, s8, s9, x10, x11, x12] = true := by
      rw [noOwn_mem] at hs ⊢
      intro s h
      exact hs s (by simp at h ⊢; exact .inr h)
    obtain ⟨t6, t7, t8, t9, hB⟩ := inner_ok (a := .lst (ns.map .int)) (b := .int (k : Nat)) (c := .int (c0 + 31 * k)) hrs hnd hr4 (i := i) (by omega) (hnice d (List.mem_of_getElem? hd)) hs'
    refine ⟨_, _, by (rw [setT_nm, setN_no (by simp only [noOwn_dat]; exact hs)]; rfl), hB, .dat d, .dat t6, .dat t7, .dat t8, .dat t9, rfl, ?_⟩
    simp [noOwn, hn, isOwn_dat]) (e := [.dat (.lst (ns.map .int)), .dat (.int (k : Nat)), .dat (.int (c0 + 31 * k)), .dat (.tup (rs.map Rule.d)), .dat (.int (i : Nat)), x5, x6, x7, x8, x9, x10, x11, x12]) ⟨x5, x6, x7, x8, x9, rfl, hn5⟩
  refine ⟨[.dat (.int (c0 + 31 * k)), .dat (.tup (rs.map Rule.d)), .dat (.int (i : Nat)), s5, s6, s7, s8, s9, x10, x11, x12], rfl, by simp only [noOwn_dat]; exact h2, ?_⟩
  unfold B_outer
  rw [seqS_nx (asg_no (by simp [noOwn, hn, isOwn_dat]) e2)]
  simp only [List.set]
  rw [seqS_nx (asg_no (d := .tup (rs.map Rule.d)) (by simp [noOwn, hn, isOwn_dat]) (by simp only [fnF_ap, consF_ap, getE_2, getE_1, getE_dat, rb_ok, nilF_ap, List.length_cons, List.length_nil, if_true, hr, noX_ok]))]
  simp only [List.set]
  have q1 := f_are_true hrs hnd hr1 hr4
  have q2 : f_are_rules [.tup ((rs ++ rs.take 1).map Rule.d)] = .ok (.bl false) := by
    refine f_are_false (fun r hr => ?_) (.inl ?_)
    · rcases List.mem_append.mp hr with h | h
      · exact hrs r h
      · exact hrs r (List.mem_of_mem_take h)
    · intro h
      cases rs with
      | nil => simp at hr1
      | cons r q => simp [List.nodup_append] at h
  have ea : addO (.tup (rs.map Rule.d)) (.tup (cutL (rs.map Rule.d) none (some 1))) = some (.tup ((rs ++ rs.take 1).map Rule.d)) := by
    have := cut_lo (rs.map Rule.d) 1
    rw [show ((1 : Nat) : Int) = 1 from rfl] at this
    rw [this, addO_tt (by rw [slE]; simp; omega), List.map_append, List.map_take]
  rw [seqS_nx (e1 := [.dat (.lst (ns.map .int)), .dat (.int (k : Nat)), .dat (.int (c0 + 31 * k)), .dat (.tup (rs.map Rule.d)), x4, x5, x6, x7, x8, x9, x10, x11, x12]) (by simp only [ifS_ap, orF_ap, tstF_ap, bopF_ap, fnF_ap, consF_ap, getE_3, getE_2, getE_1, getE_dat, rb_ok, nilF_ap, List.length_cons, List.length_nil, if_true, q1, noX_ok, cD_ap, isnO_bb, ofO_some, isBl_ap, decide_true, Bool.not_true, Bool.false_eq_true, if_false, mkL_ap, callF_ap, listO_tup, f_are_lst, nilS_ap])]
  rw [seqS_nx (e1 := [.dat (.lst (ns.map .int)), .dat (.int (k : Nat)), .dat (.int (c0 + 31 * k)), .dat (.tup (rs.map Rule.d)), x4, x5, x6, x7, x8, x9, x10, x11, x12]) (by simp only [ifS_ap, tstF_ap, bopF_ap, fnF_ap, consF_ap, getE_3, getE_2, getE_1, getE_dat, rb_ok, nilF_ap, slF_ap, noP_ap, soP_ap, cD_ap, intO_ap, slO_tup, ofO_some, ea, List.length_cons, List.length_nil, if_true, q2, noX_ok, isnO_bb, isBl_ap, decide_true, Bool.not_true, Bool.false_eq_true, if_false, nilS_ap])]
  rw [seqS_nx (asg_no (d := .int (i : Nat)) (by simp [noOwn, hn, isOwn_dat]) (by simp only [fnF_ap, consF_ap, getE_3, getE_2, getE_1, getE_dat, rb_ok, cD_ap, callF_ap, nilF_ap, lenO_tup, ofO_some, List.length_cons, List.length_nil, List.length_map, if_true, hi, noX_ok]))]
  simp only [List.set]
  have en : newG (fnF 1 f_law_strange (consF (getE 2) nilF)) [.dat (.lst (ns.map .int)), .dat (.int (k : Nat)), .dat (.int (c0 + 31 * k)), .dat (.tup (rs.map Rule.d)), .dat (.int (i : Nat)), x5, x6, x7, x8, x9, x10, x11, x12] = .ok ts := by
    simp only [newG_ap, fnF_ap, consF_ap, getE_2, getE_1, getE_dat, rb_ok, nilF_ap, List.length_cons, List.length_nil, if_true, hts, noX_ok]
    rw [if_pos]
    simp [noOwn, hn, isOwn_dat]
  simp only [forS_ap, en, rb_ok, h1]
theorem law01 (ns : List Int) : f_law [.lst (ns.map .int)] = .ok (.bl true) := by
  have hB : B_law = (seqS (forS (itF asRng1 (consF (cD (.int 10)) nilF)) (.nm 1) B_outer)
  (seqS (asgS (.nm 10) (callF tupleO (consF (mkL (compF [12] (itF asTup (tupF (consF (cD (.int 1)) (consF (cD (.int 2)) (consF (cD (.int 3)) (consF (cD (.int 4)) (consF (cD (.int 5)) nilF))))))) (.nm 12) yesF (tupF (consF (cD (.str wLong)) (consF (getE 12) nilF))))) nilF)))
  (seqS (ifS (orF (tstF (bopF isnO (fnF 1 f_are_rules (consF (slF slO (getE 10) noP (soP (cD (.int 4)))) nilF)) (cD (.bl true)))) (tstF (bopF isnO (fnF 1 f_are_rules (consF (getE 10) nilF)) (cD (.bl false))))) (retS (cD (.bl false))) nilS)
  (retS (andV (bopF isO (fnF 1 f_are_rules (consF (tupF nilF) nilF)) (cD (.bl false))) (bopF isO (fnF 1 f_are_rules (consF (cD .non) nilF)) (cD (.bl false)))))))) := rfl
  let P : Nat → En → Prop := fun _ e => ∃ x1 x2 x3 x4 x5 x6 x7 x8 x9 x10 x11 x12 : Sl, e = [.dat (.lst (ns.map .int)), x1, x2, x3, x4, x5, x6, x7, x8, x9, x10, x11, x12] ∧ noOwn [x1, x2, x3, x4, x5, x6, x7, x8, x9, x10, x11, x12] = true
  obtain ⟨e', h1, x1, x2, x3, x4, x5, x6, x7, x8, x9, x10, x11, x12, rfl, hno⟩ := forF_inv (t := .nm 1) (B := B_outer) (items := rgD 0 10) P (fun j d e hd he => by
    obtain ⟨x1, x2, x3, x4, x5, x6, x7, x8, x9, x10, x11, x12, rfl, hs⟩ := he
    have hj : j < 10 := by have := (List.getElem?_eq_some_iff.mp hd).1; simpa [rgD] using this
    have hd' : d = .int ((j : Nat) : Int) := by
      simp [rgD, hj] at hd
      rw [← hd]
    subst hd'
    have hs' : noOwn [x2, x3, x4, x5, x6, x7, x8, x9, x10, x11, x12] = true := by
      rw [noOwn_mem] at hs ⊢
      intro s h
      exact hs s (List.mem_cons_of_mem _ h)
    obtain ⟨xs, hl, hn, hB⟩ := outer_ok ns j hs'
    refine ⟨_, _, by (rw [setT_nm, setN_lf rfl]; rfl), hB, ?_⟩
    match xs, hl, hn with
    | [y2, y3, y4, y5, y6, y7, y8, y9, y10, y11, y12], _, hn => exact ⟨_, y2, y3, y4, y5, y6, y7, y8, y9, y10, y11, y12, rfl, by simp only [noOwn_dat]; exact hn⟩)
    (e := [.dat (.lst (ns.map .int)), .un, .un, .un, .un, .un, .un, .un, .un, .un, .un, .un, .un]) ⟨.un, .un, .un, .un, .un, .un, .un, .un, .un, .un, .un, .un, rfl, by simp⟩
  have hn : ∀ s ∈ [x1, x2, x3, x4, x5, x6, x7, x8, x9, x10, x11, x12], s.isOwn = false := noOwn_mem.mp hno
  simp only [List.mem_cons, List.not_mem_nil, or_false, forall_eq_or_imp, forall_eq] at hn
  let five : List Rule := [.long 1, .long 2, .long 3, .long 4, .long 5]
  have e5 : (callF tupleO (consF (mkL (compF [12] (itF asTup (tupF (consF (cD (.int 1)) (consF (cD (.int 2)) (consF (cD (.int 3)) (consF (cD (.int 4)) (consF (cD (.int 5)) nilF))))))) (.nm 12) yesF (tupF (consF (cD (.str wLong)) (consF (getE 12) nilF))))) nilF)) [.dat (.lst (ns.map .int)), x1, x2, x3, x4, x5, x6, x7, x8, x9, x10, x11, x12] = .ok (.tup (five.map Rule.d)) := by
    have ec : compF [12] (itF asTup (tupF (consF (cD (.int 1)) (consF (cD (.int 2)) (consF (cD (.int 3)) (consF (cD (.int 4)) (consF (cD (.int 5)) nilF))))))) (.nm 12) yesF (tupF (consF (cD (.str wLong)) (consF (getE 12) nilF))) [.dat (.lst (ns.map .int)), x1, x2, x3, x4, x5, x6, x7, x8, x9, x10, x11, x12] = .ok ([D.int 1, .int 2, .int 3, .int 4, .int 5].map fun d => .tup [.str wLong, d]) := by
      refine compF_ok (items := [.int 1, .int 2, .int 3, .int 4, .int 5]) ?_ (by rw [slE]; decide) (lcF_map fun d hd => ?_)
      · simp only [itF_ap, tupF_ap, consF_ap, cD_ap, rb_ok, nilF_ap, List.length_cons, List.length_nil, ofO_le (by omega : 0 + 1 + 1 + 1 + 1 + 1 ≤ 1000000), asTup_ap]
      · have hl : d.lf = true := by
          simp at hd
          rcases hd with rfl | rfl | rfl | rfl | rfl <;> rfl
        refine ⟨_, by rw [setT_nm, setN_lf hl], ?_, by simp [hl]⟩
        simp only [wipeE_cons, wipeE_nil, List.set, tupF_ap, consF_ap, cD_ap, rb_ok, getE_12, getE_11, getE_10, getE_9, getE_8, getE_7, getE_6, getE_5, getE_4, getE_3, getE_2, getE_1, getE_dat, nilF_ap, List.length_cons, List.length_nil, ofO_le (by omega : 0 + 1 + 1 ≤ 1000000)]
    simp only [callF_ap, consF_ap, mkL_ap, ec, rb_ok, nilF_ap, tupleO_lst, ofO_some]
    rfl
  have q4 : f_are_rules [.tup (cutL (five.map Rule.d) none (some 4))] = .ok (.bl true) := by
    have := cut_lo (five.map Rule.d) 4
    rw [show ((4 : Nat) : Int) = 4 from rfl] at this
    rw [this, ← List.map_take]
    exact f_are_true (by decide) (by decide) (by decide) (by decide)
  have q5 : f_are_rules [.tup (five.map Rule.d)] = .ok (.bl false) := f_are_false (by decide) (.inr (by decide))
  have q0 : f_are_rules [.tup []] = .ok (.bl false) := by
    unfold f_are_rules runD B_are_rules
    simp [seqS_ap, isiO]
  have hr : itF asRng1 (consF (cD (.int 10)) nilF) [.dat (.lst (ns.map .int)), .un, .un, .un, .un, .un, .un, .un, .un, .un, .un, .un, .un] = .ok (rgD 0 10) := by
    simp only [itF_ap, consF_ap, cD_ap, rb_ok, nilF_ap]
    exact asRng1_nat (n := 10) (by omega)
  unfold f_law runD
  rw [hB]
  have ei : initE 13 [.lst (ns.map .int)] = [.dat (.lst (ns.map .int)), .un, .un, .un, .un, .un, .un, .un, .un, .un, .un, .un, .un] := rfl
  rw [ei, seqS_nx (by simp only [forS_ap, hr, rb_ok]; exact h1), seqS_nx (asg_no (by simp [noOwn, hn, isOwn_dat]) e5)]
  simp only [List.set]
  rw [seqS_nx (e1 := [.dat (.lst (ns.map .int)), x1, x2, x3, x4, x5, x6, x7, x8, x9, .dat (.tup (five.map Rule.d)), x11, x12]) (by simp only [ifS_ap, orF_ap, tstF_ap, bopF_ap, fnF_ap, consF_ap, slF_ap, getE_10, getE_9, getE_8, getE_7, getE_6, getE_5, getE_4, getE_3, getE_2, getE_1, getE_dat, rb_ok, noP_ap, soP_ap, cD_ap, intO_ap, slO_tup, ofO_some, nilF_ap, List.length_cons, List.length_nil, if_true, q4, q5, noX_ok, isnO_bb, isBl_ap, decide_true, Bool.not_true, Bool.false_eq_true, if_false, nilS_ap])]
  simp only [retS_ap, andV_ap, bopF_ap, fnF_ap, consF_ap, tupF_ap, nilF_ap, rb_ok, List.length_nil, ofO_le (by omega : 0 ≤ 1000000), List.length_cons, if_true, q0, f_are_non, noX_ok, cD_ap, isO_bb, ofO_some, isBl_ap, decide_true]
end FM

set_option Elab.async false
set_option linter.all false
set_option maxRecDepth 100000
namespace FM
open PySem PySem.Spec PyProof.Rows L2
def topS (i : Nat) : Stmt := PySem.Challenge.pw_faultmarks_k01_rules.main.body.getD i (.Pass ⟨0, 0, 0, 0⟩)
/-- the module's names: built-ins are still the built-ins, texts stand -/
structure Gm (mg : Str → Option Value) : Prop where
  ball : mg "all" = none
  bbool : mg "bool" = none
  bint : mg "int" = none
  bisinstance : mg "isinstance" = none
  blen : mg "len" = none
  blist : mg "list" = none
  brange : mg "range" = none
  bset : mg "set" = none
  bstr : mg "str" = none
  btuple : mg "tuple" = none
  gGREAT : ∃ t, mg "GREAT" = some (.str (S tGreat) t)
  gSMALL : ∃ t, mg "SMALL" = some (.str (S tSmall) t)
structure DefAt (K : PySem.W.Frag) (mg : Str → Option Value) (x : Str) (st : Stmt) (ps : List Str) : Prop where
  ex : ∃ f fd, Fun K x x st f fd ∧ mg x = some (.ref f) ∧ Binds K fd ps []
section
variable {P : Program} {w : World} {K : PySem.W.Frag} {mg : Str → Option Value} {base : Heap} {C : Cls4}
abbrev s_is_small_word : Stmt := topS 3
theorem sc_is_small_word : FnScope ["thing", "least", "sign"] ["thing", "least"] (defScope s_is_small_word) := ⟨rfl, rfl, rfl, by decide +kernel, rfl, by decide +kernel, by decide +kernel⟩
theorem ok_is_small_word (T : Gm mg) (F : DefAt K mg "is_small_word" s_is_small_word ["thing", "least"])  : FnB P w K mg base 1 "is_small_word" ["thing", "least"] (spD K C 2 f_is_small_word) := by
  obtain ⟨f, fd, F, hm, hb⟩ := F.ex
  refine fn_data (B := B_is_small_word) C F sc_is_small_word (fun cdv A outer s H E hr => ?_) hm hb (m := 3) rfl rfl rfl
  exact (pds_one (pds_ret (pd_and (pd_isi "str" kit_str T.bisinstance T.bstr PyProof.Rows.boot_str (pd_var 0)) (pd_and (pd_ch cm_le cm_le (pd_var 1) (pd_len T.blen (pda_cons (pd_var 0) pda_nil)) pd_int) (pd_one (pd_all rfl T.ball (pda_cons (pd_new (pn_lc (own := [("sign", 2)]) (t := (.nm 2)) rfl sc_is_small_word.nd (pit_str (pd_var 0)) (blkOk_by (N := ["thing", "least", "sign"]) (sc := defScope s_is_small_word) (own := [("sign", 2)]) (by decide +kernel)) (fun _ _ _ _ _ => (pgT_nm 2 sc_is_small_word.nd)) (fun _ _ _ _ _ => ptsD_nil) (fun _ _ _ _ _ => (pd_cm (cm_in hr) (pd_var 2) (pd_glob tSmall T.gSMALL))))) pda_nil)))))))
abbrev s_is_sign : Stmt := topS 4
theorem sc_is_sign : FnScope ["thing"] ["thing"] (defScope s_is_sign) := ⟨rfl, rfl, rfl, by decide +kernel, rfl, by decide +kernel, by decide +kernel⟩
theorem ok_is_sign (T : Gm mg) (F : DefAt K mg "is_sign" s_is_sign ["thing"])  : FnB P w K mg base 1 "is_sign" ["thing"] (spD K C 1 f_is_sign) := by
  obtain ⟨f, fd, F, hm, hb⟩ := F.ex
  refine fn_data (B := B_is_sign) C F sc_is_sign (fun cdv A outer s H E hr => ?_) hm hb (m := 1) rfl rfl rfl
  exact (pds_one (pds_ret (pd_and (pd_isi "str" kit_str T.bisinstance T.bstr PyProof.Rows.boot_str (pd_var 0)) (pd_and (pd_cm (cm_eq hr) (pd_len T.blen (pda_cons (pd_var 0) pda_nil)) pd_int) (pd_and (pd_ch cm_le cm_le (pd_str [33] (by decide +kernel)) (pd_var 0) (pd_str [126] (by decide +kernel))) (pd_one (pd_cm (cm_nin hr) (pd_var 0) (pd_add (pd_glob tSmall T.gSMALL) (pd_glob tGreat T.gGREAT)))))))))
abbrev s_is_rule : Stmt := topS 5
theorem sc_is_rule : FnScope ["thing", "word", "rest"] ["thing"] (defScope s_is_rule) := ⟨rfl, rfl, rfl, by decide +kernel, rfl, by decide +kernel, by decide +kernel⟩
theorem ok_is_rule (T : Gm mg) (F : DefAt K mg "is_rule" s_is_rule ["thing"]) (h_is_sign : FnB P w K mg base 1 "is_sign" ["thing"] (spD K C 1 f_is_sign)) (h_is_small_word : FnB P w K mg base 1 "is_small_word" ["thing", "least"] (spD K C 2 f_is_small_word)) : FnB P w K mg base 2 "is_rule" ["thing"] (spD K C 1 f_is_rule) := by
  obtain ⟨f, fd, F, hm, hb⟩ := F.ex
  refine fn_data (B := B_is_rule) C F sc_is_rule (fun cdv A outer s H E hr => ?_) hm hb (m := 3) rfl rfl rfl
  exact (pds_cons (pds_if (PW.pt (pdw_or (pdt_not (pdt_tru (pd_isi "tuple" kit_tuple T.bisinstance T.btuple PyProof.Rows.boot_tuple (pd_var 0)))) (pdw_or (pdt_not (pdt_tru (pd_var 0))) (pdw_or1 (pdt_not (pdt_tru (pd_isi "str" kit_str T.bisinstance T.bstr PyProof.Rows.boot_str (pd_ix (pd_var 0) pd_int)))))))) (pds_one (pds_ret pd_bl)) pds_nil)
    (pds_cons (pds_par 1 2 rfl sc_is_rule.nd (pda_cons (pd_ix (pd_var 0) pd_int) (pda_cons (pd_sl (pd_var 0) (pdo_some pd_int) pdo_none) pda_nil)))
    (pds_cons (pds_if (pdt_cm (cm_in hr) (pd_var 1) (pd_tup (pda_cons (pd_str wTwice (by decide +kernel)) (pda_cons (pd_str wBlanks (by decide +kernel)) (pda_cons (pd_str wGreat (by decide +kernel)) pda_nil))))) (pds_one (pds_ret (pd_cm (cm_eq hr) (pd_len T.blen (pda_cons (pd_var 2) pda_nil)) pd_int))) pds_nil)
    (pds_cons (pds_if (pdt_cm (cm_eq hr) (pd_var 1) (pd_str wWord (by decide +kernel))) (pds_one (pds_ret (pd_and (pd_cm (cm_eq hr) (pd_len T.blen (pda_cons (pd_var 2) pda_nil)) pd_int) (pd_and (pd_fn h_is_small_word (hr.mono (by decide)) (pda_cons (pd_ix (pd_var 2) pd_int) (pda_cons pd_int pda_nil))) (pd_one (pd_fn h_is_small_word (hr.mono (by decide)) (pda_cons (pd_ix (pd_var 2) pd_int) (pda_cons pd_int pda_nil)))))))) pds_nil)
    (pds_cons (pds_if (pdt_cm (cm_eq hr) (pd_var 1) (pd_str wLong (by decide +kernel))) (pds_one (pds_ret (pd_and (pd_cm (cm_eq hr) (pd_len T.blen (pda_cons (pd_var 2) pda_nil)) pd_int) (pd_and (pd_isi "int" kit_int T.bisinstance T.bint PyProof.Rows.boot_int (pd_ix (pd_var 2) pd_int)) (pd_and (pd_not (pd_isi "bool" kit_bool T.bisinstance T.bbool PyProof.Rows.boot_bool (pd_ix (pd_var 2) pd_int))) (pd_one (pd_ch cm_le cm_le pd_int (pd_ix (pd_var 2) pd_int) pd_int))))))) pds_nil)
    (pds_one (pds_ret (pd_and (pd_cm (cm_eq hr) (pd_var 1) (pd_str wSign (by decide +kernel))) (pd_and (pd_cm (cm_eq hr) (pd_len T.blen (pda_cons (pd_var 2) pda_nil)) pd_int) (pd_one (pd_fn h_is_sign (hr.mono (by decide)) (pda_cons (pd_ix (pd_var 2) pd_int) pda_nil))))))))))))
abbrev s_are_rules : Stmt := topS 6
theorem sc_are_rules : FnScope ["thing", "one"] ["thing"] (defScope s_are_rules) := ⟨rfl, rfl, rfl, by decide +kernel, rfl, by decide +kernel, by decide +kernel⟩
theorem ok_are_rules (T : Gm mg) (F : DefAt K mg "are_rules" s_are_rules ["thing"]) (h_is_rule : FnB P w K mg base 2 "is_rule" ["thing"] (spD K C 1 f_is_rule)) : FnB P w K mg base 3 "are_rules" ["thing"] (spD K C 1 f_are_rules) := by
  obtain ⟨f, fd, F, hm, hb⟩ := F.ex
  refine fn_data (B := B_are_rules) C F sc_are_rules (fun cdv A outer s H E hr => ?_) hm hb (m := 2) rfl rfl rfl
  exact (pds_cons (pds_if (PW.pt (pdw_or (pdt_not (pdt_tru (pd_isi "tuple" kit_tuple T.bisinstance T.btuple PyProof.Rows.boot_tuple (pd_var 0)))) (pdw_or (pdt_not (pdt_ch cm_le cm_le pd_int (pd_len T.blen (pda_cons (pd_var 0) pda_nil)) pd_int)) (pdw_or1 (pdt_not (pdt_tru (pd_all rfl T.ball (pda_cons (pd_new (pn_lc (own := [("one", 1)]) (t := (.nm 1)) rfl sc_are_rules.nd (pit_tup (pd_var 0)) (blkOk_by (N := ["thing", "one"]) (sc := defScope s_are_rules) (own := [("one", 1)]) (by decide +kernel)) (fun _ _ _ _ _ => (pgT_nm 1 sc_are_rules.nd)) (fun _ _ _ _ _ => ptsD_nil) (fun _ _ _ _ _ => (pd_fn h_is_rule (hr.mono (by decide)) (pda_cons (pd_var 1) pda_nil))))) pda_nil)))))))) (pds_one (pds_ret pd_bl)) pds_nil)
    (pds_one (pds_ret (pd_cm (cm_eq hr) (pd_lenSetR hr T.blen T.bset (pd_var 0)) (pd_len T.blen (pda_cons (pd_var 0) pda_nil))))))
abbrev s_law_cell : Stmt := topS 8
theorem sc_law_cell : FnScope ["script", "k"] ["script", "k"] (defScope s_law_cell) := ⟨rfl, rfl, rfl, by decide +kernel, rfl, by decide +kernel, by decide +kernel⟩
theorem ok_law_cell (T : Gm mg) (F : DefAt K mg "_law_cell" s_law_cell ["script", "k"])  : FnB P w K mg base 1 "_law_cell" ["script", "k"] (spD K C 2 f_law_cell) := by
  obtain ⟨f, fd, F, hm, hb⟩ := F.ex
  refine fn_data (B := B_law_cell) C F sc_law_cell (fun cdv A outer s H E hr => ?_) hm hb (m := 2) rfl rfl rfl
  exact (pds_cons (pds_if (pdt_cm cm_lt (pd_var 1) (pd_len T.blen (pda_cons (pd_var 0) pda_nil))) (pds_one (pds_ret (pd_ix (pd_var 0) (pd_var 1)))) pds_nil)
    (pds_one (pds_ret pd_int)))
abbrev s_law_mix : Stmt := topS 9
theorem sc_law_mix : FnScope ["cell", "prime", "many", "blend"] ["cell", "prime", "many"] (defScope s_law_mix) := ⟨rfl, rfl, rfl, by decide +kernel, rfl, by decide +kernel, by decide +kernel⟩
theorem ok_law_mix (T : Gm mg) (F : DefAt K mg "_law_mix" s_law_mix ["cell", "prime", "many"])  : FnB P w K mg base 1 "_law_mix" ["cell", "prime", "many"] (spD K C 3 f_law_mix) := by
  obtain ⟨f, fd, F, hm, hb⟩ := F.ex
  refine fn_data (B := B_law_mix) C F sc_law_mix (fun cdv A outer s H E hr => ?_) hm hb (m := 4) rfl rfl rfl
  exact (pds_cons (pds_asg (t := .nm 3) (pd_mod (pd_mul (pd_var 0) pd_int) (pd_var 1)) (pgT_nm 3 sc_law_mix.nd))
    (pds_one (pds_ret (pd_mod (pd_mod (pd_mul (pd_var 3) (pd_add (pd_var 3) pd_int)) (pd_var 1)) (pd_var 2)))))
abbrev s_law_signs : Stmt := topS 10
theorem sc_law_signs : FnScope [] [] (defScope s_law_signs) := ⟨rfl, rfl, rfl, by decide +kernel, rfl, by decide +kernel, by decide +kernel⟩
theorem ok_law_signs (T : Gm mg) (F : DefAt K mg "_law_signs" s_law_signs [])  : FnB P w K mg base 1 "_law_signs" [] (spD K C 0 f_law_signs) := by
  obtain ⟨f, fd, F, hm, hb⟩ := F.ex
  refine fn_data (B := B_law_signs) C F sc_law_signs (fun cdv A outer s H E hr => ?_) hm hb (m := 0) rfl rfl rfl
  exact (pds_one (pds_ret (pd_str tSigns (by decide +kernel))))
abbrev s_law_letters : Stmt := topS 11
theorem sc_law_letters : FnScope ["cell", "many", "letters", "k"] ["cell", "many"] (defScope s_law_letters) := ⟨rfl, rfl, rfl, by decide +kernel, rfl, by decide +kernel, by decide +kernel⟩
theorem ok_law_letters (T : Gm mg) (F : DefAt K mg "_law_letters" s_law_letters ["cell", "many"]) (h_law_mix : FnB P w K mg base 1 "_law_mix" ["cell", "prime", "many"] (spD K C 3 f_law_mix)) : FnB P w K mg base 2 "_law_letters" ["cell", "many"] (spD K C 2 f_law_letters) := by
  obtain ⟨f, fd, F, hm, hb⟩ := F.ex
  refine fn_data (B := B_law_letters) C F sc_law_letters (fun cdv A outer s H E hr => ?_) hm hb (m := 4) rfl rfl rfl
  exact (pds_cons (pds_asg (t := .nm 2) (pd_str tLetters (by decide +kernel)) (pgT_nm 2 sc_law_letters.nd))
    (pds_one (pds_ret (pd_join (pd_str [] (by decide +kernel)) (pd_new (pn_lc (own := [("k", 3)]) (t := (.nm 3)) rfl sc_law_letters.nd (pit_rng1 rfl T.brange (pda_cons (pd_var 1) pda_nil)) (blkOk_by (N := ["cell", "many", "letters", "k"]) (sc := defScope s_law_letters) (own := [("k", 3)]) (by decide +kernel)) (fun _ _ _ _ _ => (pgT_nm 3 sc_law_letters.nd)) (fun _ _ _ _ _ => ptsD_nil) (fun _ _ _ _ _ => (pd_ix (pd_var 2) (pd_fn h_law_mix (hr.mono (by decide)) (pda_cons (pd_add (pd_var 0) (pd_mul pd_int (pd_var 3))) (pda_cons pd_int (pda_cons pd_int pda_nil))))))))))))
abbrev s_law_rule : Stmt := topS 12
theorem sc_law_rule : FnScope ["cell", "signs", "way", "wrong", "sign"] ["cell"] (defScope s_law_rule) := ⟨rfl, rfl, rfl, by decide +kernel, rfl, by decide +kernel, by decide +kernel⟩
theorem ok_law_rule (T : Gm mg) (F : DefAt K mg "_law_rule" s_law_rule ["cell"]) (h_law_letters : FnB P w K mg base 2 "_law_letters" ["cell", "many"] (spD K C 2 f_law_letters)) (h_law_mix : FnB P w K mg base 1 "_law_mix" ["cell", "prime", "many"] (spD K C 3 f_law_mix)) (h_law_signs : FnB P w K mg base 1 "_law_signs" [] (spD K C 0 f_law_signs)) : FnB P w K mg base 3 "_law_rule" ["cell"] (spD K C 1 f_law_rule) := by
  obtain ⟨f, fd, F, hm, hb⟩ := F.ex
  refine fn_data (B := B_law_rule) C F sc_law_rule (fun cdv A outer s H E hr => ?_) hm hb (m := 5) rfl rfl rfl
  exact (pds_cons (pds_lcL 1 (own := [("sign", 4)]) (t := (.nm 4)) rfl sc_law_rule.nd (pit_str (pd_fn0 h_law_signs (hr.mono (by decide)))) (blkOk_by (N := ["cell", "signs", "way", "wrong", "sign"]) (sc := defScope s_law_rule) (own := [("sign", 4)]) (by decide +kernel)) (fun _ _ _ _ _ => (pgT_nm 4 sc_law_rule.nd)) (fun _ _ _ _ _ => (ptsD_one (pdt_cm (cm_nin hr) (pd_var 4) (pd_str tBlankLetters (by decide +kernel))))) (fun _ _ _ _ _ => (pd_var 4)))
    (pds_cons (pds_asg (t := .nm 2) (pd_fn h_law_mix (hr.mono (by decide)) (pda_cons (pd_var 0) (pda_cons pd_int (pda_cons pd_int pda_nil)))) (pgT_nm 2 sc_law_rule.nd))
    (pds_cons (pds_if (pdt_cm (cm_eq hr) (pd_var 2) pd_int) (pds_cons (pds_asg (t := .nm 3) (pd_ix (pd_tup (pda_cons (pd_str [97] (by decide +kernel)) (pda_cons (pd_str wTeh (by decide +kernel)) (pda_cons (pd_str wThe (by decide +kernel)) (pda_cons (pd_lower (pd_fn h_law_letters (hr.mono (by decide)) (pda_cons (pd_var 0) (pda_cons (pd_add pd_int (pd_fn h_law_mix (hr.mono (by decide)) (pda_cons (pd_var 0) (pda_cons pd_int (pda_cons pd_int pda_nil))))) pda_nil)))) pda_nil))))) (pd_fn h_law_mix (hr.mono (by decide)) (pda_cons (pd_var 0) (pda_cons pd_int (pda_cons pd_int pda_nil))))) (pgT_nm 3 sc_law_rule.nd))
    (pds_one (pds_ret (pd_tup (pda_cons (pd_str wWord (by decide +kernel)) (pda_cons (pd_var 3) (pda_cons (pd_ix (pd_tup (pda_cons (pd_str [] (by decide +kernel)) (pda_cons (pd_str [97] (by decide +kernel)) (pda_cons (pd_str wThe (by decide +kernel)) (pda_cons (pd_lower (pd_fn h_law_letters (hr.mono (by decide)) (pda_cons (pd_add (pd_var 0) pd_int) (pda_cons pd_int pda_nil)))) pda_nil))))) (pd_fn h_law_mix (hr.mono (by decide)) (pda_cons (pd_var 0) (pda_cons pd_int (pda_cons pd_int pda_nil))))) pda_nil))))))) pds_nil)
    (pds_cons (pds_if (pdt_cm (cm_eq hr) (pd_var 2) pd_int) (pds_one (pds_ret (pd_tup (pda_cons (pd_str wLong (by decide +kernel)) (pda_cons (pd_add pd_int (pd_fn h_law_mix (hr.mono (by decide)) (pda_cons (pd_var 0) (pda_cons pd_int (pda_cons pd_int pda_nil))))) pda_nil))))) pds_nil)
    (pds_cons (pds_if (pdt_cm (cm_eq hr) (pd_var 2) pd_int) (pds_one (pds_ret (pd_tup (pda_cons (pd_str wSign (by decide +kernel)) (pda_cons (pd_ix (pd_tup (pda_cons (pd_str [33] (by decide +kernel)) (pda_cons (pd_str [46] (by decide +kernel)) (pda_cons (pd_ix (pd_var 1) (pd_fn h_law_mix (hr.mono (by decide)) (pda_cons (pd_var 0) (pda_cons pd_int (pda_cons (pd_len T.blen (pda_cons (pd_var 1) pda_nil)) pda_nil))))) pda_nil)))) (pd_fn h_law_mix (hr.mono (by decide)) (pda_cons (pd_var 0) (pda_cons pd_int (pda_cons pd_int pda_nil))))) pda_nil))))) pds_nil)
    (pds_one (pds_ret (pd_ix (pd_tup (pda_cons (pd_tup (pda_cons (pd_str wTwice (by decide +kernel)) pda_nil)) (pda_cons (pd_tup (pda_cons (pd_str wBlanks (by decide +kernel)) pda_nil)) (pda_cons (pd_tup (pda_cons (pd_str wGreat (by decide +kernel)) pda_nil)) pda_nil)))) (pd_sub (pd_var 2) pd_int)))))))))
abbrev s_law_rules : Stmt := topS 13
theorem sc_law_rules : FnScope ["cell", "found", "k", "rule"] ["cell"] (defScope s_law_rules) := ⟨rfl, rfl, rfl, by decide +kernel, rfl, by decide +kernel, by decide +kernel⟩
theorem ok_law_rules (T : Gm mg) (F : DefAt K mg "_law_rules" s_law_rules ["cell"]) (h_law_mix : FnB P w K mg base 1 "_law_mix" ["cell", "prime", "many"] (spD K C 3 f_law_mix)) (h_law_rule : FnB P w K mg base 3 "_law_rule" ["cell"] (spD K C 1 f_law_rule)) : FnB P w K mg base 4 "_law_rules" ["cell"] (spD K C 1 f_law_rules) := by
  obtain ⟨f, fd, F, hm, hb⟩ := F.ex
  refine fn_data (B := B_law_rules) C F sc_law_rules (fun cdv A outer s H E hr => ?_) hm hb (m := 4) rfl rfl rfl
  exact (pds_cons (pds_asg (t := .nm 1) (pd_tup pda_nil) (pgT_nm 1 sc_law_rules.nd))
    (pds_cons (pds_for (t := (.nm 2)) PassesOwn.never rfl (pif_rng1 rfl T.brange (pda_cons (pd_add pd_int (pd_fn h_law_mix (hr.mono (by decide)) (pda_cons (pd_var 0) (pda_cons pd_int (pda_cons pd_int pda_nil))))) pda_nil)) (pgT_nm 2 sc_law_rules.nd)
      (pds_cons (pds_asg (t := .nm 3) (pd_fn h_law_rule (hr.mono (by decide)) (pda_cons (pd_add (pd_var 0) (pd_mul pd_int (pd_var 2))) pda_nil)) (pgT_nm 3 sc_law_rules.nd))
    (pds_one (pds_if (pdt_cm (cm_nin hr) (pd_var 3) (pd_var 1)) (pds_one (pds_asg (t := .nm 1) (pd_add (pd_var 1) (pd_tup (pda_cons (pd_var 3) pda_nil))) (pgT_nm 1 sc_law_rules.nd))) pds_nil))))
    (pds_one (pds_ret (pd_var 1)))))
abbrev s_law_is_small : Stmt := topS 14
theorem sc_law_is_small : FnScope ["thing", "least", "sign"] ["thing", "least"] (defScope s_law_is_small) := ⟨rfl, rfl, rfl, by decide +kernel, rfl, by decide +kernel, by decide +kernel⟩
theorem ok_law_is_small (T : Gm mg) (F : DefAt K mg "_law_is_small" s_law_is_small ["thing", "least"])  : FnB P w K mg base 1 "_law_is_small" ["thing", "least"] (spD K C 2 f_law_is_small) := by
  obtain ⟨f, fd, F, hm, hb⟩ := F.ex
  refine fn_data (B := B_law_is_small) C F sc_law_is_small (fun cdv A outer s H E hr => ?_) hm hb (m := 3) rfl rfl rfl
  exact (pds_cons (pds_if (PW.pt (pdw_or (pdt_not (pdt_tru (pd_isi "str" kit_str T.bisinstance T.bstr PyProof.Rows.boot_str (pd_var 0)))) (pdw_or (pdt_cm cm_lt (pd_len T.blen (pda_cons (pd_var 0) pda_nil)) (pd_var 1)) (pdw_or1 (pdt_cm cm_gt (pd_len T.blen (pda_cons (pd_var 0) pda_nil)) pd_int))))) (pds_one (pds_ret pd_bl)) pds_nil)
    (pds_one (pds_ret (pd_cm (cm_eq hr) (pd_new (pn_lc (own := [("sign", 2)]) (t := (.nm 2)) rfl sc_law_is_small.nd (pit_str (pd_var 0)) (blkOk_by (N := ["thing", "least", "sign"]) (sc := defScope s_law_is_small) (own := [("sign", 2)]) (by decide +kernel)) (fun _ _ _ _ _ => (pgT_nm 2 sc_law_is_small.nd)) (fun _ _ _ _ _ => (ptsD_one (pdt_not (pdt_ch cm_le cm_le (pd_str [97] (by decide +kernel)) (pd_var 2) (pd_str [122] (by decide +kernel)))))) (fun _ _ _ _ _ => (pd_var 2)))) (pd_new (pn_lst pda_nil))))))
abbrev s_law_is_rule : Stmt := topS 15
theorem sc_law_is_rule : FnScope ["thing"] ["thing"] (defScope s_law_is_rule) := ⟨rfl, rfl, rfl, by decide +kernel, rfl, by decide +kernel, by decide +kernel⟩
theorem ok_law_is_rule (T : Gm mg) (F : DefAt K mg "_law_is_rule" s_law_is_rule ["thing"]) (h_law_is_small : FnB P w K mg base 1 "_law_is_small" ["thing", "least"] (spD K C 2 f_law_is_small)) : FnB P w K mg base 2 "_law_is_rule" ["thing"] (spD K C 1 f_law_is_rule) := by
  obtain ⟨f, fd, F, hm, hb⟩ := F.ex
  refine fn_data (B := B_law_is_rule) C F sc_law_is_rule (fun cdv A outer s H E hr => ?_) hm hb (m := 1) rfl rfl rfl
  exact (pds_cons (pds_if (PW.pt (pdw_or (pdt_not (pdt_tru (pd_isi "tuple" kit_tuple T.bisinstance T.btuple PyProof.Rows.boot_tuple (pd_var 0)))) (pdw_or (pdt_cm (cm_eq hr) (pd_var 0) (pd_tup pda_nil)) (pdw_or1 (pdt_not (pdt_tru (pd_isi "str" kit_str T.bisinstance T.bstr PyProof.Rows.boot_str (pd_ix (pd_var 0) pd_int)))))))) (pds_one (pds_ret pd_bl)) pds_nil)
    (pds_cons (pds_if (pdt_cm (cm_in hr) (pd_ix (pd_var 0) pd_int) (pd_tup (pda_cons (pd_str wTwice (by decide +kernel)) (pda_cons (pd_str wBlanks (by decide +kernel)) (pda_cons (pd_str wGreat (by decide +kernel)) pda_nil))))) (pds_one (pds_ret (pd_cm (cm_eq hr) (pd_len T.blen (pda_cons (pd_var 0) pda_nil)) pd_int))) pds_nil)
    (pds_cons (pds_if (pdt_cm (cm_eq hr) (pd_ix (pd_var 0) pd_int) (pd_str wWord (by decide +kernel))) (pds_one (pds_ret (pd_and (pd_cm (cm_eq hr) (pd_len T.blen (pda_cons (pd_var 0) pda_nil)) pd_int) (pd_and (pd_fn h_law_is_small (hr.mono (by decide)) (pda_cons (pd_ix (pd_var 0) pd_int) (pda_cons pd_int pda_nil))) (pd_one (pd_fn h_law_is_small (hr.mono (by decide)) (pda_cons (pd_ix (pd_var 0) pd_int) (pda_cons pd_int pda_nil)))))))) pds_nil)
    (pds_cons (pds_if (pdt_cm (cm_ne hr) (pd_len T.blen (pda_cons (pd_var 0) pda_nil)) pd_int) (pds_one (pds_ret pd_bl)) pds_nil)
    (pds_cons (pds_if (pdt_cm (cm_eq hr) (pd_ix (pd_var 0) pd_int) (pd_str wLong (by decide +kernel))) (pds_one (pds_ret (pd_and (pd_isi "int" kit_int T.bisinstance T.bint PyProof.Rows.boot_int (pd_ix (pd_var 0) pd_int)) (pd_and (pd_not (pd_isi "bool" kit_bool T.bisinstance T.bbool PyProof.Rows.boot_bool (pd_ix (pd_var 0) pd_int))) (pd_one (pd_ch cm_lt cm_lt pd_int (pd_ix (pd_var 0) pd_int) pd_int)))))) pds_nil)
    (pds_cons (pds_if (PW.pt (pdw_or (pdt_cm (cm_ne hr) (pd_ix (pd_var 0) pd_int) (pd_str wSign (by decide +kernel))) (pdw_or (pdt_not (pdt_tru (pd_isi "str" kit_str T.bisinstance T.bstr PyProof.Rows.boot_str (pd_ix (pd_var 0) pd_int)))) (pdw_or1 (pdt_cm (cm_ne hr) (pd_len T.blen (pda_cons (pd_ix (pd_var 0) pd_int) pda_nil)) pd_int))))) (pds_one (pds_ret pd_bl)) pds_nil)
    (pds_one (pds_ret (pd_and (pd_ch cm_le cm_le (pd_str [33] (by decide +kernel)) (pd_ix (pd_var 0) pd_int) (pd_str [126] (by decide +kernel))) (pd_and (pd_not (pd_ch cm_le cm_le (pd_str [97] (by decide +kernel)) (pd_ix (pd_var 0) pd_int) (pd_str [122] (by decide +kernel)))) (pd_one (pd_not (pd_ch cm_le cm_le (pd_str [65] (by decide +kernel)) (pd_ix (pd_var 0) pd_int) (pd_str [90] (by decide +kernel)))))))))))))))
abbrev s_law_strange : Stmt := topS 16
theorem sc_law_strange : FnScope ["cell", "signs", "some", "k"] ["cell"] (defScope s_law_strange) := ⟨rfl, rfl, rfl, by decide +kernel, rfl, by decide +kernel, by decide +kernel⟩
theorem ok_law_strange (T : Gm mg) (F : DefAt K mg "_law_strange" s_law_strange ["cell"]) (h_law_mix : FnB P w K mg base 1 "_law_mix" ["cell", "prime", "many"] (spD K C 3 f_law_mix)) (h_law_signs : FnB P w K mg base 1 "_law_signs" [] (spD K C 0 f_law_signs)) : FnB P w K mg base 2 "_law_strange" ["cell"] (spL K C 1 f_law_strange) := by
  obtain ⟨f, fd, F, hm, hb⟩ := F.ex
  refine fn_list (B := B_law_strange) C F sc_law_strange (fun cdv A outer s H E hr => ?_) hm hb (m := 4) rfl rfl rfl
  exact (pds_cons (pds_asg (t := .nm 1) (pd_fn0 h_law_signs (hr.mono (by decide))) (pgT_nm 1 sc_law_strange.nd))
    (pds_cons (pds_asgL 2 (pn_lst (pda_cons pd_non (pda_cons pd_int (pda_cons (pd_str wTwice (by decide +kernel)) (pda_cons (pd_tup pda_nil) (pda_cons (pd_tup (pda_cons (pd_str wTwice (by decide +kernel)) (pda_cons pd_int pda_nil))) (pda_cons (pd_tup (pda_cons (pd_str wBlanks (by decide +kernel)) (pda_cons (pd_str [] (by decide +kernel)) pda_nil))) pda_nil))))))) sc_law_strange.nd)
    (pds_cons (pds_asgL 2 (pn_add (pd_var 2) (pd_new (pn_lst (pda_cons (pd_tup (pda_cons (pd_str wGreat (by decide +kernel)) (pda_cons pd_non pda_nil))) (pda_cons (pd_tup (pda_cons pd_int pda_nil)) (pda_cons (pd_tup (pda_cons pd_non (pda_cons (pd_str [97] (by decide +kernel)) pda_nil))) (pda_cons (pd_new (pn_lst (pda_cons (pd_str wTwice (by decide +kernel)) pda_nil))) (pda_cons (pd_tup (pda_cons (pd_str [84, 119, 105, 99, 101] (by decide +kernel)) pda_nil)) pda_nil)))))))) sc_law_strange.nd)
    (pds_cons (pds_asgL 2 (pn_add (pd_var 2) (pd_new (pn_lst (pda_cons (pd_tup (pda_cons (pd_str wWord (by decide +kernel)) (pda_cons (pd_str wTeh (by decide +kernel)) pda_nil))) (pda_cons (pd_tup (pda_cons (pd_str wWord (by decide +kernel)) (pda_cons (pd_str [] (by decide +kernel)) (pda_cons (pd_str [97] (by decide +kernel)) pda_nil)))) (pda_cons (pd_tup (pda_cons (pd_str wWord (by decide +kernel)) (pda_cons (pd_str [97, 98, 99, 100, 101, 102, 103] (by decide +kernel)) (pda_cons (pd_str [97] (by decide +kernel)) pda_nil)))) pda_nil)))))) sc_law_strange.nd)
    (pds_cons (pds_asgL 2 (pn_add (pd_var 2) (pd_new (pn_lst (pda_cons (pd_tup (pda_cons (pd_str wWord (by decide +kernel)) (pda_cons (pd_str wTeh (by decide +kernel)) (pda_cons (pd_str [97, 98, 99, 100, 101, 102, 103] (by decide +kernel)) pda_nil)))) (pda_cons (pd_tup (pda_cons (pd_str wWord (by decide +kernel)) (pda_cons pd_int (pda_cons (pd_str [97] (by decide +kernel)) pda_nil)))) pda_nil))))) sc_law_strange.nd)
    (pds_cons (pds_asgL 2 (pn_add (pd_var 2) (pd_new (pn_lst (pda_cons (pd_tup (pda_cons (pd_str wWord (by decide +kernel)) (pda_cons (pd_str wTeh (by decide +kernel)) (pda_cons pd_non pda_nil)))) (pda_cons (pd_tup (pda_cons (pd_str wWord (by decide +kernel)) (pda_cons (pd_str [84, 101, 104] (by decide +kernel)) (pda_cons (pd_str [97] (by decide +kernel)) pda_nil)))) (pda_cons (pd_tup (pda_cons (pd_str wWord (by decide +kernel)) (pda_cons (pd_str [116, 101, 32, 104] (by decide +kernel)) (pda_cons (pd_str [97] (by decide +kernel)) pda_nil)))) pda_nil)))))) sc_law_strange.nd)
    (pds_cons (pds_asgL 2 (pn_add (pd_var 2) (pd_new (pn_lst (pda_cons (pd_tup (pda_cons (pd_str wWord (by decide +kernel)) (pda_cons (pd_str wTeh (by decide +kernel)) (pda_cons (pd_str [] (by decide +kernel)) pda_nil)))) (pda_cons (pd_tup (pda_cons (pd_str wWord (by decide +kernel)) (pda_cons (pd_str [116] (by decide +kernel)) (pda_cons (pd_str [116, 104] (by decide +kernel)) (pda_cons (pd_str [] (by decide +kernel)) pda_nil))))) pda_nil))))) sc_law_strange.nd)
    (pds_cons (pds_asgL 2 (pn_add (pd_var 2) (pd_new (pn_lst (pda_cons (pd_tup (pda_cons (pd_str wLong (by decide +kernel)) (pda_cons pd_int pda_nil))) (pda_cons (pd_tup (pda_cons (pd_str wLong (by decide +kernel)) (pda_cons pd_int pda_nil))) (pda_cons (pd_tup (pda_cons (pd_str wLong (by decide +kernel)) (pda_cons pd_int pda_nil))) (pda_cons (pd_tup (pda_cons (pd_str wLong (by decide +kernel)) (pda_cons pd_int pda_nil))) pda_nil))))))) sc_law_strange.nd)
    (pds_cons (pds_asgL 2 (pn_add (pd_var 2) (pd_new (pn_lst (pda_cons (pd_tup (pda_cons (pd_str wLong (by decide +kernel)) (pda_cons pd_bl pda_nil))) (pda_cons (pd_tup (pda_cons (pd_str wLong (by decide +kernel)) (pda_cons (pd_str [51] (by decide +kernel)) pda_nil))) (pda_cons (pd_tup (pda_cons (pd_str wLong (by decide +kernel)) pda_nil)) (pda_cons (pd_tup (pda_cons (pd_str wLong (by decide +kernel)) (pda_cons pd_int (pda_cons pd_int pda_nil)))) pda_nil))))))) sc_law_strange.nd)
    (pds_cons (pds_asgL 2 (pn_add (pd_var 2) (pd_new (pn_lst (pda_cons (pd_tup (pda_cons (pd_str wSign (by decide +kernel)) (pda_cons (pd_str [] (by decide +kernel)) pda_nil))) (pda_cons (pd_tup (pda_cons (pd_str wSign (by decide +kernel)) (pda_cons (pd_str [33, 33] (by decide +kernel)) pda_nil))) (pda_cons (pd_tup (pda_cons (pd_str wSign (by decide +kernel)) (pda_cons (pd_str [32] (by decide +kernel)) pda_nil))) (pda_cons (pd_tup (pda_cons (pd_str wSign (by decide +kernel)) (pda_cons pd_non pda_nil))) pda_nil))))))) sc_law_strange.nd)
    (pds_cons (pds_asgL 2 (pn_add (pd_var 2) (pd_new (pn_lst (pda_cons (pd_tup (pda_cons (pd_str wSign (by decide +kernel)) (pda_cons (pd_str [33] (by decide +kernel)) pda_nil))) (pda_cons (pd_tup (pda_cons (pd_str wSign (by decide +kernel)) pda_nil)) (pda_cons (pd_tup (pda_cons (pd_str wSign (by decide +kernel)) (pda_cons (pd_str [97] (by decide +kernel)) (pda_cons (pd_str [98] (by decide +kernel)) pda_nil)))) (pda_cons (pd_tup (pda_cons (pd_str [115, 105, 103, 104] (by decide +kernel)) (pda_cons (pd_str [33] (by decide +kernel)) pda_nil))) pda_nil))))))) sc_law_strange.nd)
    (pds_one (pds_retN (pn_add (pd_var 2) (pd_new (pn_lc (own := [("k", 3)]) (t := (.nm 3)) rfl sc_law_strange.nd (pit_rng1 rfl T.brange (pda_cons pd_int pda_nil)) (blkOk_by (N := ["cell", "signs", "some", "k"]) (sc := defScope s_law_strange) (own := [("k", 3)]) (by decide +kernel)) (fun _ _ _ _ _ => (pgT_nm 3 sc_law_strange.nd)) (fun _ _ _ _ _ => ptsD_nil) (fun _ _ _ _ _ => (pd_tup (pda_cons (pd_str wSign (by decide +kernel)) (pda_cons (pd_ix (pd_var 1) (pd_fn h_law_mix (hr.mono (by decide)) (pda_cons (pd_add (pd_var 0) (pd_var 3)) (pda_cons pd_int (pda_cons (pd_len T.blen (pda_cons (pd_var 1) pda_nil)) pda_nil))))) pda_nil))))))))))))))))))))
abbrev s_law : Stmt := topS 17
theorem sc_law : FnScope ["script", "k", "cell", "rules", "at", "thing", "some", "rest", "due", "told", "five", "rule", "many"] ["script"] (defScope s_law) := ⟨rfl, rfl, rfl, by decide +kernel, rfl, by decide +kernel, by decide +kernel⟩
theorem ok_law (T : Gm mg) {f : Addr} {fd : FuncData} (F : Fun K "law" "law" s_law f fd) (h_law_cell : FnB P w K mg base 1 "_law_cell" ["script", "k"] (spD K C 2 f_law_cell)) (h_law_is_rule : FnB P w K mg base 2 "_law_is_rule" ["thing"] (spD K C 1 f_law_is_rule)) (h_law_mix : FnB P w K mg base 1 "_law_mix" ["cell", "prime", "many"] (spD K C 3 f_law_mix)) (h_law_rules : FnB P w K mg base 4 "_law_rules" ["cell"] (spD K C 1 f_law_rules)) (h_law_strange : FnB P w K mg base 2 "_law_strange" ["cell"] (spL K C 1 f_law_strange)) (h_are_rules : FnB P w K mg base 3 "are_rules" ["thing"] (spD K C 1 f_are_rules)) : FnOk P w K mg base CX0 5 f fd ["script"] (spD K C 1 f_law) := by
  refine fn_law (B := B_law) C F sc_law (fun cdv A outer s H E hr => ?_) (m := 13) rfl rfl rfl
  exact (pds_cons (pds_for (t := (.nm 1)) PassesOwn.never rfl (pif_rng1 rfl T.brange (pda_cons pd_int pda_nil)) (pgT_nm 1 sc_law.nd)
      (pds_cons (pds_asg (t := .nm 2) (pd_add (pd_fn h_law_cell (hr.mono (by decide)) (pda_cons (pd_var 0) (pda_cons (pd_mod (pd_var 1) pd_int) pda_nil))) (pd_mul pd_int (pd_var 1))) (pgT_nm 2 sc_law.nd))
    (pds_cons (pds_asg (t := .nm 3) (pd_fn h_law_rules (hr.mono (by decide)) (pda_cons (pd_var 2) pda_nil)) (pgT_nm 3 sc_law.nd))
    (pds_cons (pds_if (PW.pt (pdw_or (pdt_cm cm_isn (pd_fn h_are_rules (hr.mono (by decide)) (pda_cons (pd_var 3) pda_nil)) pd_bl) (pdw_or1 (pdt_cm cm_isn (pd_fn h_are_rules (hr.mono (by decide)) (pda_cons (pd_new (pn_list T.blist (pda_cons (pd_var 3) pda_nil))) pda_nil)) pd_bl)))) (pds_one (pds_ret pd_bl)) pds_nil)
    (pds_cons (pds_if (pdt_cm cm_isn (pd_fn h_are_rules (hr.mono (by decide)) (pda_cons (pd_add (pd_var 3) (pd_sl (pd_var 3) pdo_none (pdo_some pd_int))) pda_nil)) pd_bl) (pds_one (pds_ret pd_bl)) pds_nil)
    (pds_cons (pds_asg (t := .nm 4) (pd_fn h_law_mix (hr.mono (by decide)) (pda_cons (pd_var 2) (pda_cons pd_int (pda_cons (pd_len T.blen (pda_cons (pd_var 3) pda_nil)) pda_nil)))) (pgT_nm 4 sc_law.nd))
    (pds_one (pds_for (t := (.nm 5)) PassesOwn.never rfl (pif_new (pn_fn h_law_strange (hr.mono (by decide)) (pda_cons (pd_var 2) pda_nil))) (pgT_nm 5 sc_law.nd)
      (pds_cons (pds_asg (t := .nm 6) (pd_add (pd_add (pd_sl (pd_var 3) pdo_none (pdo_some (pd_var 4))) (pd_tup (pda_cons (pd_var 5) pda_nil))) (pd_sl (pd_var 3) (pdo_some (pd_add (pd_var 4) pd_int)) pdo_none)) (pgT_nm 6 sc_law.nd))
    (pds_cons (pds_asg (t := .nm 7) (pd_add (pd_sl (pd_var 3) pdo_none (pdo_some (pd_var 4))) (pd_sl (pd_var 3) (pdo_some (pd_add (pd_var 4) pd_int)) pdo_none)) (pgT_nm 7 sc_law.nd))
    (pds_cons (pds_asg (t := .nm 8) (pd_and (pd_fn h_law_is_rule (hr.mono (by decide)) (pda_cons (pd_var 5) pda_nil)) (pd_one (pd_cm (cm_eq hr) (pd_new (pn_lc (own := [("rule", 11)]) (t := (.nm 11)) rfl sc_law.nd (pit_tup (pd_var 7)) (blkOk_by (N := ["script", "k", "cell", "rules", "at", "thing", "some", "rest", "due", "told", "five", "rule", "many"]) (sc := defScope s_law) (own := [("rule", 11)]) (by decide +kernel)) (fun _ _ _ _ _ => (pgT_nm 11 sc_law.nd)) (fun _ _ _ _ _ => (ptsD_one (pdt_cm (cm_eq hr) (pd_var 11) (pd_var 5)))) (fun _ _ _ _ _ => (pd_var 11)))) (pd_new (pn_lst pda_nil))))) (pgT_nm 8 sc_law.nd))
    (pds_cons (pds_asg (t := .nm 9) (pd_fn h_are_rules (hr.mono (by decide)) (pda_cons (pd_var 6) pda_nil)) (pgT_nm 9 sc_law.nd))
    (pds_one (pds_if (PW.pt (pdw_or (PW.pt (pdw_and (pdt_cm cm_isn (pd_var 9) pd_bl) (pdw_and1 (pdt_tru (pd_var 8))))) (pdw_or1 (PW.pt (pdw_and (pdt_cm cm_isn (pd_var 9) pd_bl) (pdw_and1 (pdt_not (pdt_tru (pd_var 8))))))))) (pds_one (pds_ret pd_bl)) pds_nil))))))))))))))
    (pds_cons (pds_asg (t := .nm 10) (pd_tuple T.btuple (pda_cons (pd_new (pn_lc (own := [("many", 12)]) (t := (.nm 12)) rfl sc_law.nd (pit_tup (pd_tup (pda_cons pd_int (pda_cons pd_int (pda_cons pd_int (pda_cons pd_int (pda_cons pd_int pda_nil))))))) (blkOk_by (N := ["script", "k", "cell", "rules", "at", "thing", "some", "rest", "due", "told", "five", "rule", "many"]) (sc := defScope s_law) (own := [("many", 12)]) (by decide +kernel)) (fun _ _ _ _ _ => (pgT_nm 12 sc_law.nd)) (fun _ _ _ _ _ => ptsD_nil) (fun _ _ _ _ _ => (pd_tup (pda_cons (pd_str wLong (by decide +kernel)) (pda_cons (pd_var 12) pda_nil)))))) pda_nil)) (pgT_nm 10 sc_law.nd))
    (pds_cons (pds_if (PW.pt (pdw_or (pdt_cm cm_isn (pd_fn h_are_rules (hr.mono (by decide)) (pda_cons (pd_sl (pd_var 10) pdo_none (pdo_some pd_int)) pda_nil)) pd_bl) (pdw_or1 (pdt_cm cm_isn (pd_fn h_are_rules (hr.mono (by decide)) (pda_cons (pd_var 10) pda_nil)) pd_bl)))) (pds_one (pds_ret pd_bl)) pds_nil)
    (pds_one (pds_ret (pd_and (pd_cm cm_is (pd_fn h_are_rules (hr.mono (by decide)) (pda_cons (pd_tup pda_nil) pda_nil)) pd_bl) (pd_one (pd_cm cm_is (pd_fn h_are_rules (hr.mono (by decide)) (pda_cons pd_non pda_nil)) pd_bl))))))))
end
end FM

set_option Elab.async false
set_option linter.all false
set_option maxRecDepth 100000


namespace FM
open PySem PySem.Spec PyProof.Rows L2
theorem RpAll.ints {K : PySem.W.Frag} {H : Hp} : ∀ ns : List Int, RpAll K H (ns.map .int) (ns.map V.int)
  | [] => RpAll.nil
  | n :: ns => RpAll.cons rfl (RpAll.ints ns)
theorem all_mk {l : PySem.W.OpenLaw} {w : World} {K : PySem.W.Frag} {h : Heap} {mg : Str → Option Value} {fa : Addr} (X : K.In h) (G : h.Ns mainGlobals mg) (hfa : mg "law" = some (.ref fa))
    {f0 : Addr} {od0 an0 : Option Addr} {sl0 : Array (Option Value)} {oc0 kV0 dc0 pm0 cd0 ct0 : Value}
    (a0 : PySem.W.nsIn K mainGlobals "is_small_word" = some (some (.ref f0))) (l0 : K.lookup f0 = some ⟨oc0, od0, .func (PySem.W.fnOf "is_small_word" "is_small_word" (defArgs s_is_small_word) (defBody s_is_small_word) (defScope s_is_small_word) .none kV0 dc0 pm0 an0 cd0 ct0), sl0⟩) (c0 : PySem.W.codeIn K cd0 "is_small_word" = true) (k0 : PySem.W.keepIn K (.ref f0) = true)
    {f1 : Addr} {od1 an1 : Option Addr} {sl1 : Array (Option Value)} {oc1 kV1 dc1 pm1 cd1 ct1 : Value}
    (a1 : PySem.W.nsIn K mainGlobals "is_sign" = some (some (.ref f1))) (l1 : K.lookup f1 = some ⟨oc1, od1, .func (PySem.W.fnOf "is_sign" "is_sign" (defArgs s_is_sign) (defBody s_is_sign) (defScope s_is_sign) .none kV1 dc1 pm1 an1 cd1 ct1), sl1⟩) (c1 : PySem.W.codeIn K cd1 "is_sign" = true) (k1 : PySem.W.keepIn K (.ref f1) = true)
    {f2 : Addr} {od2 an2 : Option Addr} {sl2 : Array (Option Value)} {oc2 kV2 dc2 pm2 cd2 ct2 : Value}
    (a2 : PySem.W.nsIn K mainGlobals "is_rule" = some (some (.ref f2))) (l2 : K.lookup f2 = some ⟨oc2, od2, .func (PySem.W.fnOf "is_rule" "is_rule" (defArgs s_is_rule) (defBody s_is_rule) (defScope s_is_rule) .none kV2 dc2 pm2 an2 cd2 ct2), sl2⟩) (c2 : PySem.W.codeIn K cd2 "is_rule" = true) (k2 : PySem.W.keepIn K (.ref f2) = true)
    {f3 : Addr} {od3 an3 : Option Addr} {sl3 : Array (Option Value)} {oc3 kV3 dc3 pm3 cd3 ct3 : Value}
    (a3 : PySem.W.nsIn K mainGlobals "are_rules" = some (some (.ref f3))) (l3 : K.lookup f3 = some ⟨oc3, od3, .func (PySem.W.fnOf "are_rules" "are_rules" (defArgs s_are_rules) (defBody s_are_rules) (defScope s_are_rules) .none kV3 dc3 pm3 an3 cd3 ct3), sl3⟩) (c3 : PySem.W.codeIn K cd3 "are_rules" = true) (k3 : PySem.W.keepIn K (.ref f3) = true)
    {f4 : Addr} {od4 an4 : Option Addr} {sl4 : Array (Option Value)} {oc4 kV4 dc4 pm4 cd4 ct4 : Value}
    (a4 : PySem.W.nsIn K mainGlobals "_law_cell" = some (some (.ref f4))) (l4 : K.lookup f4 = some ⟨oc4, od4, .func (PySem.W.fnOf "_law_cell" "_law_cell" (defArgs s_law_cell) (defBody s_law_cell) (defScope s_law_cell) .none kV4 dc4 pm4 an4 cd4 ct4), sl4⟩) (c4 : PySem.W.codeIn K cd4 "_law_cell" = true) (k4 : PySem.W.keepIn K (.ref f4) = true)
    {f5 : Addr} {od5 an5 : Option Addr} {sl5 : Array (Option Value)} {oc5 kV5 dc5 pm5 cd5 ct5 : Value}
    (a5 : PySem.W.nsIn K mainGlobals "_law_mix" = some (some (.ref f5))) (l5 : K.lookup f5 = some ⟨oc5, od5, .func (PySem.W.fnOf "_law_mix" "_law_mix" (defArgs s_law_mix) (defBody s_law_mix) (defScope s_law_mix) .none kV5 dc5 pm5 an5 cd5 ct5), sl5⟩) (c5 : PySem.W.codeIn K cd5 "_law_mix" = true) (k5 : PySem.W.keepIn K (.ref f5) = true)
    {f6 : Addr} {od6 an6 : Option Addr} {sl6 : Array (Option Value)} {oc6 kV6 dc6 pm6 cd6 ct6 : Value}
    (a6 : PySem.W.nsIn K mainGlobals "_law_signs" = some (some (.ref f6))) (l6 : K.lookup f6 = some ⟨oc6, od6, .func (PySem.W.fnOf "_law_signs" "_law_signs" (defArgs s_law_signs) (defBody s_law_signs) (defScope s_law_signs) .none kV6 dc6 pm6 an6 cd6 ct6), sl6⟩) (c6 : PySem.W.codeIn K cd6 "_law_signs" = true) (k6 : PySem.W.keepIn K (.ref f6) = true)
    {f7 : Addr} {od7 an7 : Option Addr} {sl7 : Array (Option Value)} {oc7 kV7 dc7 pm7 cd7 ct7 : Value}
    (a7 : PySem.W.nsIn K mainGlobals "_law_letters" = some (some (.ref f7))) (l7 : K.lookup f7 = some ⟨oc7, od7, .func (PySem.W.fnOf "_law_letters" "_law_letters" (defArgs s_law_letters) (defBody s_law_letters) (defScope s_law_letters) .none kV7 dc7 pm7 an7 cd7 ct7), sl7⟩) (c7 : PySem.W.codeIn K cd7 "_law_letters" = true) (k7 : PySem.W.keepIn K (.ref f7) = true)
    {f8 : Addr} {od8 an8 : Option Addr} {sl8 : Array (Option Value)} {oc8 kV8 dc8 pm8 cd8 ct8 : Value}
    (a8 : PySem.W.nsIn K mainGlobals "_law_rule" = some (some (.ref f8))) (l8 : K.lookup f8 = some ⟨oc8, od8, .func (PySem.W.fnOf "_law_rule" "_law_rule" (defArgs s_law_rule) (defBody s_law_rule) (defScope s_law_rule) .none kV8 dc8 pm8 an8 cd8 ct8), sl8⟩) (c8 : PySem.W.codeIn K cd8 "_law_rule" = true) (k8 : PySem.W.keepIn K (.ref f8) = true)
    {f9 : Addr} {od9 an9 : Option Addr} {sl9 : Array (Option Value)} {oc9 kV9 dc9 pm9 cd9 ct9 : Value}
    (a9 : PySem.W.nsIn K mainGlobals "_law_rules" = some (some (.ref f9))) (l9 : K.lookup f9 = some ⟨oc9, od9, .func (PySem.W.fnOf "_law_rules" "_law_rules" (defArgs s_law_rules) (defBody s_law_rules) (defScope s_law_rules) .none kV9 dc9 pm9 an9 cd9 ct9), sl9⟩) (c9 : PySem.W.codeIn K cd9 "_law_rules" = true) (k9 : PySem.W.keepIn K (.ref f9) = true)
    {f10 : Addr} {od10 an10 : Option Addr} {sl10 : Array (Option Value)} {oc10 kV10 dc10 pm10 cd10 ct10 : Value}
    (a10 : PySem.W.nsIn K mainGlobals "_law_is_small" = some (some (.ref f10))) (l10 : K.lookup f10 = some ⟨oc10, od10, .func (PySem.W.fnOf "_law_is_small" "_law_is_small" (defArgs s_law_is_small) (defBody s_law_is_small) (defScope s_law_is_small) .none kV10 dc10 pm10 an10 cd10 ct10), sl10⟩) (c10 : PySem.W.codeIn K cd10 "_law_is_small" = true) (k10 : PySem.W.keepIn K (.ref f10) = true)
    {f11 : Addr} {od11 an11 : Option Addr} {sl11 : Array (Option Value)} {oc11 kV11 dc11 pm11 cd11 ct11 : Value}
    (a11 : PySem.W.nsIn K mainGlobals "_law_is_rule" = some (some (.ref f11))) (l11 : K.lookup f11 = some ⟨oc11, od11, .func (PySem.W.fnOf "_law_is_rule" "_law_is_rule" (defArgs s_law_is_rule) (defBody s_law_is_rule) (defScope s_law_is_rule) .none kV11 dc11 pm11 an11 cd11 ct11), sl11⟩) (c11 : PySem.W.codeIn K cd11 "_law_is_rule" = true) (k11 : PySem.W.keepIn K (.ref f11) = true)
    {f12 : Addr} {od12 an12 : Option Addr} {sl12 : Array (Option Value)} {oc12 kV12 dc12 pm12 cd12 ct12 : Value}
    (a12 : PySem.W.nsIn K mainGlobals "_law_strange" = some (some (.ref f12))) (l12 : K.lookup f12 = some ⟨oc12, od12, .func (PySem.W.fnOf "_law_strange" "_law_strange" (defArgs s_law_strange) (defBody s_law_strange) (defScope s_law_strange) .none kV12 dc12 pm12 an12 cd12 ct12), sl12⟩) (c12 : PySem.W.codeIn K cd12 "_law_strange" = true) (k12 : PySem.W.keepIn K (.ref f12) = true)
    {f13 : Addr} {od13 an13 : Option Addr} {sl13 : Array (Option Value)} {oc13 kV13 dc13 pm13 cd13 ct13 : Value}
    (a13 : PySem.W.nsIn K mainGlobals "law" = some (some (.ref f13))) (l13 : K.lookup f13 = some ⟨oc13, od13, .func (PySem.W.fnOf "law" "law" (defArgs s_law) (defBody s_law) (defScope s_law) .none kV13 dc13 pm13 an13 cd13 ct13), sl13⟩) (c13 : PySem.W.codeIn K cd13 "law" = true) (k13 : PySem.W.keepIn K (.ref f13) = true)
    (zall : PySem.W.nsIn K mainGlobals "all" = some none)
    (zbool : PySem.W.nsIn K mainGlobals "bool" = some none)
    (zint : PySem.W.nsIn K mainGlobals "int" = some none)
    (zisinstance : PySem.W.nsIn K mainGlobals "isinstance" = some none)
    (zlen : PySem.W.nsIn K mainGlobals "len" = some none)
    (zlist : PySem.W.nsIn K mainGlobals "list" = some none)
    (zrange : PySem.W.nsIn K mainGlobals "range" = some none)
    (zset : PySem.W.nsIn K mainGlobals "set" = some none)
    (zstr : PySem.W.nsIn K mainGlobals "str" = some none)
    (ztuple : PySem.W.nsIn K mainGlobals "tuple" = some none)
    {xGREAT : Str} {tGREAT : Tok} (gGREAT : PySem.W.nsIn K mainGlobals "GREAT" = some (some (.str xGREAT tGREAT))) (eGREAT : xGREAT = S tGreat)
    {xSMALL : Str} {tSMALL : Tok} (gSMALL : PySem.W.nsIn K mainGlobals "SMALL" = some (some (.str xSMALL tSMALL))) (eSMALL : xSMALL = S tSmall)
    : ∃ fd : FuncData, (∀ (s : Shared) (v : Value), BindsTo s fd ⟨[v], []⟩ [("script", v)]) ∧ ∀ base : Heap, K.In base → base.Ns mainGlobals mg → FnOk l.prog w K mg base CX0 5 fa fd ["script"] (spD K ⟨fun _ => 0⟩ 1 f_law) := by
  have e := hfa.symm.trans (PySem.W.mg_of X G a13)
  cases e
  have T : Gm mg := ⟨PySem.W.mg_none_of X G zall, PySem.W.mg_none_of X G zbool, PySem.W.mg_none_of X G zint, PySem.W.mg_none_of X G zisinstance, PySem.W.mg_none_of X G zlen, PySem.W.mg_none_of X G zlist, PySem.W.mg_none_of X G zrange, PySem.W.mg_none_of X G zset, PySem.W.mg_none_of X G zstr, PySem.W.mg_none_of X G ztuple, ⟨tGREAT, by rw [PySem.W.mg_of X G gGREAT, eGREAT]⟩, ⟨tSMALL, by rw [PySem.W.mg_of X G gSMALL, eSMALL]⟩⟩
  have F0 := fun_mk (st := s_is_small_word) l0 c0 k0
  have D0 : DefAt K mg "is_small_word" s_is_small_word ["thing", "least"] := ⟨f0, _, F0, PySem.W.mg_of X G a0, F0.binds fun _ _ _ _ _ _ us hl => match us, hl with | [_, _], _ => rfl⟩
  have F1 := fun_mk (st := s_is_sign) l1 c1 k1
  have D1 : DefAt K mg "is_sign" s_is_sign ["thing"] := ⟨f1, _, F1, PySem.W.mg_of X G a1, F1.binds fun _ _ _ _ _ _ us hl => match us, hl with | [_], _ => rfl⟩
  have F2 := fun_mk (st := s_is_rule) l2 c2 k2
  have D2 : DefAt K mg "is_rule" s_is_rule ["thing"] := ⟨f2, _, F2, PySem.W.mg_of X G a2, F2.binds fun _ _ _ _ _ _ us hl => match us, hl with | [_], _ => rfl⟩
  have F3 := fun_mk (st := s_are_rules) l3 c3 k3
  have D3 : DefAt K mg "are_rules" s_are_rules ["thing"] := ⟨f3, _, F3, PySem.W.mg_of X G a3, F3.binds fun _ _ _ _ _ _ us hl => match us, hl with | [_], _ => rfl⟩
  have F4 := fun_mk (st := s_law_cell) l4 c4 k4
  have D4 : DefAt K mg "_law_cell" s_law_cell ["script", "k"] := ⟨f4, _, F4, PySem.W.mg_of X G a4, F4.binds fun _ _ _ _ _ _ us hl => match us, hl with | [_, _], _ => rfl⟩
  have F5 := fun_mk (st := s_law_mix) l5 c5 k5
  have D5 : DefAt K mg "_law_mix" s_law_mix ["cell", "prime", "many"] := ⟨f5, _, F5, PySem.W.mg_of X G a5, F5.binds fun _ _ _ _ _ _ us hl => match us, hl with | [_, _, _], _ => rfl⟩
  have F6 := fun_mk (st := s_law_signs) l6 c6 k6
  have D6 : DefAt K mg "_law_signs" s_law_signs [] := ⟨f6, _, F6, PySem.W.mg_of X G a6, F6.binds fun _ _ _ _ _ _ us hl => match us, hl with | [], _ => rfl⟩
  have F7 := fun_mk (st := s_law_letters) l7 c7 k7
  have D7 : DefAt K mg "_law_letters" s_law_letters ["cell", "many"] := ⟨f7, _, F7, PySem.W.mg_of X G a7, F7.binds fun _ _ _ _ _ _ us hl => match us, hl with | [_, _], _ => rfl⟩
  have F8 := fun_mk (st := s_law_rule) l8 c8 k8
  have D8 : DefAt K mg "_law_rule" s_law_rule ["cell"] := ⟨f8, _, F8, PySem.W.mg_of X G a8, F8.binds fun _ _ _ _ _ _ us hl => match us, hl with | [_], _ => rfl⟩
  have F9 := fun_mk (st := s_law_rules) l9 c9 k9
  have D9 : DefAt K mg "_law_rules" s_law_rules ["cell"] := ⟨f9, _, F9, PySem.W.mg_of X G a9, F9.binds fun _ _ _ _ _ _ us hl => match us, hl with | [_], _ => rfl⟩
  have F10 := fun_mk (st := s_law_is_small) l10 c10 k10
  have D10 : DefAt K mg "_law_is_small" s_law_is_small ["thing", "least"] := ⟨f10, _, F10, PySem.W.mg_of X G a10, F10.binds fun _ _ _ _ _ _ us hl => match us, hl with | [_, _], _ => rfl⟩
  have F11 := fun_mk (st := s_law_is_rule) l11 c11 k11
  have D11 : DefAt K mg "_law_is_rule" s_law_is_rule ["thing"] := ⟨f11, _, F11, PySem.W.mg_of X G a11, F11.binds fun _ _ _ _ _ _ us hl => match us, hl with | [_], _ => rfl⟩
  have F12 := fun_mk (st := s_law_strange) l12 c12 k12
  have D12 : DefAt K mg "_law_strange" s_law_strange ["cell"] := ⟨f12, _, F12, PySem.W.mg_of X G a12, F12.binds fun _ _ _ _ _ _ us hl => match us, hl with | [_], _ => rfl⟩
  have F13 := fun_mk (st := s_law) l13 c13 k13
  refine ⟨PySem.W.fnOf "law" "law" (defArgs s_law) (defBody s_law) (defScope s_law) .none kV13 dc13 pm13 an13 cd13 ct13, fun s v => .of_eq rfl, fun base _ _ => ?_⟩
  have h_is_small_word := ok_is_small_word (P := l.prog) (w := w) (base := base) (C := ⟨fun _ => 0⟩) T D0 
  have h_is_sign := ok_is_sign (P := l.prog) (w := w) (base := base) (C := ⟨fun _ => 0⟩) T D1 
  have h_law_cell := ok_law_cell (P := l.prog) (w := w) (base := base) (C := ⟨fun _ => 0⟩) T D4 
  have h_law_mix := ok_law_mix (P := l.prog) (w := w) (base := base) (C := ⟨fun _ => 0⟩) T D5 
  have h_law_signs := ok_law_signs (P := l.prog) (w := w) (base := base) (C := ⟨fun _ => 0⟩) T D6 
  have h_law_is_small := ok_law_is_small (P := l.prog) (w := w) (base := base) (C := ⟨fun _ => 0⟩) T D10 
  have h_is_rule := ok_is_rule (P := l.prog) (w := w) (base := base) (C := ⟨fun _ => 0⟩) T D2 h_is_sign h_is_small_word
  have h_law_letters := ok_law_letters (P := l.prog) (w := w) (base := base) (C := ⟨fun _ => 0⟩) T D7 h_law_mix
  have h_law_is_rule := ok_law_is_rule (P := l.prog) (w := w) (base := base) (C := ⟨fun _ => 0⟩) T D11 h_law_is_small
  have h_law_strange := ok_law_strange (P := l.prog) (w := w) (base := base) (C := ⟨fun _ => 0⟩) T D12 h_law_mix h_law_signs
  have h_are_rules := ok_are_rules (P := l.prog) (w := w) (base := base) (C := ⟨fun _ => 0⟩) T D3 h_is_rule
  have h_law_rule := ok_law_rule (P := l.prog) (w := w) (base := base) (C := ⟨fun _ => 0⟩) T D8 h_law_letters h_law_mix h_law_signs
  have h_law_rules := ok_law_rules (P := l.prog) (w := w) (base := base) (C := ⟨fun _ => 0⟩) T D9 h_law_mix h_law_rule
  exact ok_law T F13 h_law_cell h_law_is_rule h_law_mix h_law_rules h_law_strange h_are_rules
theorem hsp {K : PySem.W.Frag} {H : Hp} {a : Addr} {ns : List Int} (hl : ns.length ≤ 63) (hS : SqL K H a (ns.map V.int)) : spD K ⟨fun _ => 0⟩ 1 f_law [.ref a] H (fun v _ => v = .bl true) fun _ _ _ => False := by
  refine ⟨[.lst (ns.map .int)], rfl, RpAll.cons ⟨a, _, rfl, hS, RpAll.ints ns⟩ RpAll.nil, ?_⟩
  rw [law01 ns]
  intro v H' _ r
  exact r
end FM
open PySem PySem.W PyProof.Rows
set_option maxHeartbeats 0 in
theorem PySem.Challenge.cw_faultmarks_k01_rules_holds : PySem.Challenge.rw_faultmarks_k01_rules.Holds := by
  w_on; o_law; k_head; (case hw => w_witness2)
  k_fill
  refine L2.walk_of (l := PySem.Challenge.rw_faultmarks_k01_rules) (n := 63) (k := 5) (x := "script") (CX := fun _ => L2.CX0) (sp := fun w => FM.spD _ ⟨fun _ => 0⟩ 1 FM.f_law) rfl (by decide) rfl ⟨rfl, by decide, by decide⟩ (fun w h Y => PySem.W.kIn_of Y) ?F (fun _ _ a ns hl _ hS => FM.hsp hl hS) (fun _ _ _ _ _ h => h)
  case F =>
    intro w mg fa h KX G hmg
    refine' FM.all_mk KX G hmg ?a0 ?l0 ?c0 ?k0 ?a1 ?l1 ?c1 ?k1 ?a2 ?l2 ?c2 ?k2 ?a3 ?l3 ?c3 ?k3 ?a4 ?l4 ?c4 ?k4 ?a5 ?l5 ?c5 ?k5 ?a6 ?l6 ?c6 ?k6 ?a7 ?l7 ?c7 ?k7 ?a8 ?l8 ?c8 ?k8 ?a9 ?l9 ?c9 ?k9 ?a10 ?l10 ?c10 ?k10 ?a11 ?l11 ?c11 ?k11 ?a12 ?l12 ?c12 ?k12 ?a13 ?l13 ?c13 ?k13 ?zall ?zbool ?zint ?zisinstance ?zlen ?zlist ?zrange ?zset ?zstr ?ztuple ?gGREAT ?eGREAT ?gSMALL ?eSMALL
    (case a0 => k_is)
    (case l0 => k_is)
    (case c0 => k_is)
    (case k0 => k_is)
    (case a1 => k_is)
    (case l1 => k_is)
    (case c1 => k_is)
    (case k1 => k_is)
    (case a2 => k_is)
    (case l2 => k_is)
    (case c2 => k_is)
    (case k2 => k_is)
    (case a3 => k_is)
    (case l3 => k_is)
    (case c3 => k_is)
    (case k3 => k_is)
    (case a4 => k_is)
    (case l4 => k_is)
    (case c4 => k_is)
    (case k4 => k_is)
    (case a5 => k_is)
    (case l5 => k_is)
    (case c5 => k_is)
    (case k5 => k_is)
    (case a6 => k_is)
    (case l6 => k_is)
    (case c6 => k_is)
    (case k6 => k_is)
    (case a7 => k_is)
    (case l7 => k_is)
    (case c7 => k_is)
    (case k7 => k_is)
    (case a8 => k_is)
    (case l8 => k_is)
    (case c8 => k_is)
    (case k8 => k_is)
    (case a9 => k_is)
    (case l9 => k_is)
    (case c9 => k_is)
    (case k9 => k_is)
    (case a10 => k_is)
    (case l10 => k_is)
    (case c10 => k_is)
    (case k10 => k_is)
    (case a11 => k_is)
    (case l11 => k_is)
    (case c11 => k_is)
    (case k11 => k_is)
    (case a12 => k_is)
    (case l12 => k_is)
    (case c12 => k_is)
    (case k12 => k_is)
    (case a13 => k_is)
    (case l13 => k_is)
    (case c13 => k_is)
    (case k13 => k_is)
    (case zall => k_is)
    (case zbool => k_is)
    (case zint => k_is)
    (case zisinstance => k_is)
    (case zlen => k_is)
    (case zlist => k_is)
    (case zrange => k_is)
    (case zset => k_is)
    (case zstr => k_is)
    (case ztuple => k_is)
    (case gGREAT => k_is)
    (case eGREAT => rfl)
    (case gSMALL => k_is)
    (case eSMALL => rfl)
